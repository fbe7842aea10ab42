import PyProof.Rows.All
import Wide.All
import OpenK.AllK
import Wide.FinOn
import PyProof.EqAt
import PyProof.EqKinds
import PyProof.TupleCall
import KE.KExcSuper
import KE.KExcIs
import HandS.ForMost
import HandS.ForExc
import HandS.ExcInit
import HandS.ExcField
import HandS.ExcIs
import HandS.TryMany
import HandS.Walk
import HandS.Wide
import HandS.EndBits
import HandS.Flow
import HandS.Codes
import HandS.IsInst
import PySem.Challenge.RW_heldsteps_k02_numbers_and_names_checked
set_option Elab.async false
set_option linter.all false
set_option maxRecDepth 100000
set_option maxHeartbeats 4000000
/-! An error class of the package: a class over a class over ValueError, whose __init__ says super().__init__(text) and then stores its arguments. -/
namespace PySem
namespace HErr
open PySem.W PySem.Calls PyProof.Rows PySem.HandSPX
abbrev FP := Str × Pos × Pos × Pos × Pos
def stF (q : FP) : Stmt := .Assign [.Attribute (.Name "self" q.2.1) q.1 q.2.2.1] (.Name q.1 q.2.2.2.1) q.2.2.2.2
def stS (msg : Expr) (p1 p2 p3 p4 p5 : Pos) : Stmt := .Expr (.Call (.Attribute (.Call (.Name "super" p1) [] [] p2) "__init__" p3) [msg] [] p4) p5
section
variable {prog : Program} {w : World} {A : Around} {E : Value → Shared → Prop} {s : Shared} {K : Frag} {C : Addr}
/-- what is known of the class for its stores -/
structure ClsK (K : Frag) (C : Addr) (fs : List Str) : Prop where
  cls : ∃ nm q N bs bm sn sub ab col dd k0 k1 k2 k3 k5, K.lookup C = some (excClassObj nm q C N bs bm true sn sub ab col dd k0 k1 k2 k3 k5 "ValueError.__new__") ∧ refsVE bm = true
  sa : findIn K (.ref C) "__setattr__" = some (some (.builtin "object.__setattr__"))
  noN : ∀ f ∈ fs, findIn K (.ref C) f = some none
theorem ClsK.data {fs : List Str} (T : ClsK K C fs) : ∃ cd, clsIn K C = some cd ∧ refsVE cd.mro = true ∧ cd.hasDict = true := by
  obtain ⟨nm, q, N, bs, bm, sn, sub, ab, col, dd, k0, k1, k2, k3, k5, hC, hbm⟩ := T.cls
  exact ⟨{ name := nm, bases := bs, mro := .ref C :: bm, ns := N, qualname := q, hasDict := true, slotNames := sn, subclasses := sub, abstract := ab, collection := col, hasDel := false }, by unfold clsIn; rw [hC] <;> rfl, hbm, rfl⟩
theorem ld {M : Model} {env : Env} {m : Str → Option Value} {x : Str} {pos : Pos} {v : Value} {Q : Value → Shared → Prop} (hn : s.heap.Ns env.locals m) (hv : m x = some v) (h : Q v s)
    (hk : env.scope.kind = .function) (hl : env.kindOf x = some .local) (hd : (x == ("__debug__" : Str)) = false) :
    wpAny M A (eval (.Name x pos) env) Q E s := wpAny_Name (wpAny_loadName_local hk hl hn hv h) hd
theorem swaps_attr (env : Env) (q : FP) : swapsWith (.Name q.1 q.2.2.2.1) (some (.Attribute (.Name "self" q.2.1) q.1 q.2.2.1)) q.2.2.2.2.line env = pure false := rfl
/-- the stores behind the first -/
theorem stores_old {names : List Str} (T : ClsK K C names) {env : Env} (hk : env.scope.kind = .function) (hself : env.kindOf "self" = some .local) {m : Str → Option Value} {x dx t0 : Addr} (hmx : m "self" = some (.ref x)) :
    ∀ (fs : List FP) (us : List Value) (vs : List L2.V) (hv : L2.Vals vs us) (hfn : ∀ q ∈ fs, q.1 ∈ names ∧ env.kindOf q.1 = some .local ∧ (q.1 == ("__debug__" : Str)) = false) (hm : Paired (fun (q : FP) u => m q.1 = some u) fs us) (fV : List (Str × L2.V)) (mA : Str → Option Value) (s : Shared) (Q : Flow → Shared → Prop),
      K.In s.heap → s.heap.Ns env.locals m → env.locals ≠ dx → K.lookup dx = none →
      s.heap.get? x = some { cls := .ref C, dict := some dx, data := .fields #[.ref t0, .none, .none, .none, .bool false, .none] } → s.heap.Ns1 dx mA → (∀ f, L2.RelO (fV.lookup f) (mA f)) → fV.length + fs.length ≤ 900 →
      (∀ h' tk mB, (∀ b o, b ≠ dx → s.heap.get? b = some o → h'.get? b = some o) → h'.Ns1 dx mB → (∀ f, L2.RelO ((((fs.map (·.1)).zip vs).reverse ++ fV).lookup f) (mB f)) → Q .next { s with heap := h', toks := tk }) →
      wpAny (model prog w) A (execs (fs.map stF) env) Q E s
  | [], us, vs, hv, hfn, hm, fV, mA, s, Q, X, hn, hL, hKd, hx, hns, hr, hl, hq => by
    refine wpAny_execs_nil ?_
    have := hq s.heap s.toks mA (fun _ _ _ e => e) hns (by simpa using hr)
    exact this
  | q :: fs, us, vs, hv, hfn, hm, fV, mA, s, Q, X, hn, hL, hKd, hx, hns, hr, hl, hq => by
    cases hm with
    | cons hu hm' =>
      rename_i u us'
      cases hv with
      | cons ru hv' =>
        rename_i v vs'
        obtain ⟨hmem, hloc, hdb⟩ := hfn q (List.mem_cons_self ..)
        obtain ⟨cd, hcd, hmro, hhd⟩ := T.data
        have hw := L2.within_of hr
        obtain ⟨hp, g, d, tk, os⟩ := s
        obtain ⟨oD, _, _, hoD, _, _⟩ := hns.count hw
        show wpAny _ _ (execs (stF q :: fs.map stF) env) _ _ _
        refine wpAny_execs_cons (plainObj_wpAny_Assign_Attribute ?_ (swaps_attr env q))
        refine ld hn hu (ld hn hmx ?_ hk hself (by decide)) hk hloc hdb
        refine set_plain X (ox := { cls := .ref C, dict := some dx, data := .fields #[.ref t0, .none, .none, .none, .bool false, .none] }) (od := some oD) ⟨hx, rfl, rfl, hoD⟩ T.sa ?_
        refine PySem.OEX.osa_old X hx hns hw (by rw [List.length_map]; omega) hcd hmro hhd (T.noN _ hmem) (fun h' tk' k hn' => ?_)
        have hxd : x ≠ dx := fun z => by
          obtain ⟨o, es, ep, e1, e2, _⟩ := hns
          rw [← z, hx] at e1
          cases e1
          cases e2
        refine stores_old T hk hself hmx fs us' vs' hv' (fun q' hq' => hfn q' (List.mem_cons_of_mem _ hq')) hm' ((q.1, v) :: fV) _ ⟨h', g, d, tk', os⟩ Q
          (fun a o e => k a o (fun z => by rw [z, hKd] at e; cases e) (X a o e)) ?_ hL hKd (k _ _ hxd hx) hn' (L2.relO_put ru hr) (by simp only [List.length_cons] at hl ⊢; omega) (fun h2 tk2 mB k2 hn2 r2 => ?_)
        · obtain ⟨o, es, ep, e1, e2⟩ := hn
          exact ⟨o, es, ep, k _ _ hL e1, e2⟩
        · refine hq h2 tk2 mB (fun b o hb e => k2 b o hb (k b o hb e)) hn2 fun f => ?_
          have := r2 f
          simpa using this
/-- all stores: from an exception without a dict -/
theorem stores_new {names : List Str} (T : ClsK K C names) {env : Env} (hk : env.scope.kind = .function) (hself : env.kindOf "self" = some .local) {m : Str → Option Value} {x t0 : Addr} (hmx : m "self" = some (.ref x))
    (q : FP) (fs : List FP) (us : List Value) (vs : List L2.V) (hv : L2.Vals vs us) (hfn : ∀ q' ∈ q :: fs, q'.1 ∈ names ∧ env.kindOf q'.1 = some .local ∧ (q'.1 == ("__debug__" : Str)) = false) (hm : Paired (fun (q : FP) u => m q.1 = some u) (q :: fs) us) (s : Shared) (Q : Flow → Shared → Prop)
    (X : K.In s.heap) (hn : s.heap.Ns env.locals m) (hLx : env.locals ≠ x) (hKx : K.lookup x = none)
    (hx : s.heap.get? x = some { cls := .ref C, data := .fields #[.ref t0, .none, .none, .none, .bool false, .none] }) (hl : fs.length ≤ 800)
    (hq : ∀ h' tk dx mB, (∀ b o, b ≠ x → s.heap.get? b = some o → h'.get? b = some o) → s.heap.objs.size ≤ dx → dx ≠ x → h'.get? x = some { cls := .ref C, dict := some dx, data := .fields #[.ref t0, .none, .none, .none, .bool false, .none] } →
      h'.Ns1 dx mB → (∀ f, L2.RelO (((((q :: fs).map (·.1)).zip vs).reverse).lookup f) (mB f)) → Q .next { s with heap := h', toks := tk }) :
    wpAny (model prog w) A (execs ((q :: fs).map stF) env) Q E s := by
  cases hm with
  | cons hu hm' =>
    rename_i u us'
    cases hv with
    | cons ru hv' =>
      rename_i v vs'
      obtain ⟨hmem, hloc, hdb⟩ := hfn q (List.mem_cons_self ..)
      obtain ⟨cd, hcd, hmro, hhd⟩ := T.data
      obtain ⟨hp, g, d, tk, os⟩ := s
      show wpAny _ _ (execs (stF q :: fs.map stF) env) _ _ _
      refine wpAny_execs_cons (plainObj_wpAny_Assign_Attribute ?_ (swaps_attr env q))
      refine ld hn hu (ld hn hmx ?_ hk hself (by decide)) hk hloc hdb
      refine set_plain X (ox := { cls := .ref C, dict := none, data := .fields #[.ref t0, .none, .none, .none, .bool false, .none] }) (od := none) ⟨hx, rfl, rfl, trivial⟩ T.sa ?_
      refine exc_osa X hx hcd hmro hhd (T.noN _ hmem) (fun h' tk' dx k dn dne hx' hn' => ?_)
      have hbig : ∀ {b : Addr} {o : Obj}, hp.get? b = some o → b ≠ dx := fun {b o} e => Nat.ne_of_lt (Nat.lt_of_lt_of_le (Heap.lt_size e) dn)
      have hKd : K.lookup dx = none := by
        cases e : K.lookup dx with
        | none => rfl
        | some o => exact absurd rfl (hbig (X _ _ e))
      have hLd : env.locals ≠ dx := by
        obtain ⟨o, es, ep, e1, e2⟩ := hn
        exact hbig e1
      refine stores_old T hk hself hmx fs us' vs' hv' (fun q' hq' => hfn q' (List.mem_cons_of_mem _ hq')) hm' [(q.1, v)] _ ⟨h', g, d, tk', os⟩ Q
        (fun a o e => k a o (fun z => by rw [z, hKx] at e; cases e) (X a o e)) ?_ hLd hKd hx' hn' (L2.relO_put (fs := []) ru fun _ => True.intro) (by simp only [List.length_cons, List.length_nil] at hl ⊢; omega) (fun h2 tk2 mB k2 hn2 r2 => ?_)
      · obtain ⟨o, es, ep, e1, e2⟩ := hn
        exact ⟨o, es, ep, k _ _ hLx e1, e2⟩
      · refine hq h2 tk2 dx mB (fun b o hb e => k2 b o (hbig e) (k b o hb e)) dn dne (k2 _ _ (Ne.symm dne) hx') hn2 fun f => ?_
        have := r2 f
        simpa using this
/-- what the written part says of the class at C and of its __init__, at fI: its name is cn, its fields fs -/
structure ErrTxt (P : Program) (K : Frag) (mg : Str → Option Value) (tm : Bool) (cn : Str) (C fI : Addr) (fs : List Str) : Prop extends ClsK K C fs where
  gC : mg cn = some (.ref C)
  ga : findIn K (.ref C) "__getattribute__" = some (some (.builtin "BaseException.__getattribute__"))
  gg : findIn K (.ref C) "__getattr__" = some none
  iC : findIn K (.ref C) "__init__" = some (some (.ref fI))
  tC : typeIn K (.ref fI) = some (.type "function")
  kC : keepIn K (.ref C) = true
  exC : subIn K (.ref C) (.type "BaseException") = some true
  veC : subIn K (.ref C) (.type "ValueError") = some true
  tyC : typeIn K (.ref C) = some (.type "type")
  hdC : hasDictIn K C = true
  sup : ks_superIn K C C "__init__" = some (some (.builtin "ValueError.__init__"))
  mro : mroIn K C (.ref C) = some true
  sub : subIn K (.ref C) (.ref C) = some true
  ca : findIn K (.ref C) "__class__" = some (some (.builtin "object.__class__"))
  cg : specialIn K (.builtin "object.__class__") "__get__" = some (some (.builtin "getset_descriptor.__get__"))
  ct : takesIn K (.builtin "object.__class__") = some true
  mo : mroIn K C (.type "object") = some true
  opq : nsIn K cStatics "thirdparty.any" = some none
  msup : mg "super" = none
  top : (P.main.scope.names.lookup ("super" : Str)).isSome = false
  fn : ∃ (oc : Value) (od : Option Addr) (qual : Str) (par : Arguments) (sc : Scope) (msg : Expr) (p1 p2 p3 p4 p5 : Pos) (fp : List FP) (dV kV doc pm : Value) (an : Option Addr) (cda cc : Addr) (ct : Value) (osl : Array (Option Value)) (ar : Arg)
      (ccl cl : Value) (cdd cld : Option Addr) (ccs csl : Array (Option Value)) (vs : Array Value) (file : Str) (tf : Tok),
    K.lookup fI = some ⟨oc, od, .func (ksFn "__init__" qual par (stS msg p1 p2 p3 p4 p5 :: fp.map stF) sc dV kV doc pm an (.ref cda) ct cc), osl⟩ ∧ codeIn K (.ref cda) qual = true ∧
    (par.posonlyargs ++ par.args).head? = some ar ∧ ar.arg = "self" ∧ K.lookup cda = some ⟨ccl, cdd, .fields vs, ccs⟩ ∧ vs[2]? = some (.str file tf) ∧ ((P.main.file : Str) == file) = true ∧
    K.lookup cc = some ⟨cl, cld, .cell (some (.ref C)), csl⟩ ∧ fp.map (·.1) = fs ∧ (p3.endLine == p4.line) = true ∧
    (sc.names.lookup ("super" : Str) = some .globalImplicit ∧ sc.names.lookup ("__class__" : Str) = some .free ∧ sc.names.lookup ("self" : Str) = some .local ∧ (∀ f ∈ fs, sc.names.lookup f = some .local) ∧ (∀ f ∈ fs, (f == ("__debug__" : Str)) = false) ∧ (∀ y ∈ sc.names, y.2 ≠ .cell)) ∧
    (sc.kind = .function ∧ sc.isGenerator = false ∧ sc.isCoroutine = false) ∧
    (∀ (s : Shared) (x : Value) (us : List Value), us.length = fs.length → BindsTo s (ksFn "__init__" qual par (stS msg p1 p2 p3 p4 p5 :: fp.map stF) sc dV kV doc pm an (.ref cda) ct cc) ⟨x :: us, []⟩ (("self", x) :: fs.zip us)) ∧
    (∀ (x : Value) (us : List Value), us.length = fs.length → ((("self" : Str), x) :: fs.zip us).reverse.lookup ("self" : Str) = some x ∧ Paired (fun f u => ((("self" : Str), x) :: fs.zip us).reverse.lookup f = some u) fs us) ∧
    ((tm = false ∧ ∃ (z : Str) (i : Nat) (p : Pos), msg = .Constant (.str z) i p) ∨ tm = true ∧ ∃ (z f : Str) (i : Nat) (p p' p'' : Pos), msg = .BinOp (.Constant (.str z) i p) .Add (.Name f p') p'' ∧ z.length ≤ 100 ∧ fs.head? = some f)
/-- what __init__ leaves of a fresh exception at x -/
structure InitEnd (h h' : Heap) (x C dx t1 : Addr) (fs : List Str) (vs : List L2.V) : Prop where
  keep : ∀ b o, b ≠ x → h.get? b = some o → h'.get? b = some o
  obj : h'.get? x = some { cls := .ref C, dict := some dx, data := .fields #[.ref t1, .none, .none, .none, .bool false, .none] }
  dbig : h.objs.size ≤ dx
  dne : dx ≠ x
  ns : ∃ mB, h'.Ns1 dx mB ∧ ∀ f, L2.RelO ((fs.zip vs).reverse.lookup f) (mB f)
/-- the built-in __init__, bound, called -/
theorem call_bw {h : Heap} {g : Array GenState} {d : Drawn} {t : Nat} {os : OsState} {u e t0 : Addr} {rest : List Value} {names : List Str} {Q : Value → Shared → Prop} (T : ClsK K C names) (X : K.In h)
    (he : h.get? e = some (excO C t0)) (hu : h.get? u = some (kxs_mw "ValueError.__init__" e)) (hrest : rest.length ≤ sizeLine)
    (hq : ∀ h' t1, (∀ b o, b ≠ e → h.get? b = some o → h'.get? b = some o) → h'.get? e = some (excO C t1) → Q .none ⟨h', g, d, t, os⟩) :
    wpAny (model prog w) A (call (.ref u) rest) Q E ⟨h, g, d, t, os⟩ := by
  obtain ⟨nm, q, N, bs, bm, sn, sub, ab, col, dd, k0, k1, k2, k3, k5, hC, hbm⟩ := T.cls
  refine wpAny_call (codeAny_of_tree ?_)
  show wpAny _ A.in1 (callAny (.ref u) ⟨rest, []⟩) _ _ _
  simp only [callAny]
  refine wpAny_bind (wpAny_load hu ?_)
  simp only [kxs_mw, show (Value.type "method-wrapper" == Value.type "method" || Value.type "method-wrapper" == Value.type "builtin_function_or_method" || Value.type "method-wrapper" == Value.type "method-wrapper") = true by decide, if_true]
  refine W.KFB.if_so (by decide) ?_
  refine wpAny_bind (PySem.W.check_bound_init F.excBase_ValueError.toExcCallFacts (X _ _ hC) he rfl ?_)
  refine wpAny_bind (wpAny_pure (wpAny_pure ?_))
  refine ⟨plainId_quiet F.excBase_ValueError.init.plain _, codeAny_builtin F.excBase_ValueError.initEntry ?_⟩
  exact exc_init_tree (cls := .ref C) (t0 := t0) (dv := none) (c2 := .none) (c3 := .none) (b4 := .bool false) he hrest fun h' k e' _ => hq h' _ k e'
/-- the text that super().__init__ gets -/
def MsgOk (msg : Expr) (env : Env) (m : Str → Option Value) : Prop := ∀ (prog : Program) (w : World) (A : Around) (E : Value → Shared → Prop) (s : Shared) (Q : Value → Shared → Prop), s.heap.Ns env.locals m → (∀ v tk, Q v { s with toks := tk }) → wpAny (model prog w) A (eval msg env) Q E s
/-- its __init__, called -/
theorem err_init {mg : Str → Option Value} {cn : Str} {fI : Addr} {fs : List Str} {tm : Bool} (T : ErrTxt prog K mg tm cn C fI fs) {x t0 : Addr} {us : List Value} {vs : List L2.V} {mb : Str → Option Value} {R : Result → Shared → Prop} (hv : L2.Vals vs us) (hl : us.length = fs.length) (hl8 : fs.length ≤ 8) (hne : fs ≠ [])
    (hmsg : tm = true → ∀ u, us.head? = some u → ∃ (z : Str) (t : Tok), u = .str z t ∧ z.length ≤ 1000)
    (X : K.In s.heap) (hlim : s.heap.NoLimit) (hg : s.heap.Ns mainGlobals mg) (hb : s.heap.Ns builtinsNs mb) (hbs : mb "super" = bootBuiltins "super") (hx : s.heap.get? x = some (excO C t0)) (hnx : K.lookup x = none) (hroom : A.depth < recursionLimit)
    (hq : ∀ h' tk dx t1, InitEnd s.heap h' x C dx t1 fs vs → R (.ok (.ret .none)) { s with heap := h', toks := tk }) :
    codeAny (model prog w) A (.call (.ref fI) ⟨.ref x :: us, []⟩) R s := by
  obtain ⟨oc, od, qual, par, sc, msg, p1, p2, p3, p4, p5, fp, dV, kV, doc, pm, an, cda, cc, ct, osl, ar, ccl, cl, cdd, cld, ccs, csl, avs, file, tf, ho, hcd, har, hself, hcda, hfile, hfe, hcell, hfp, hpos, ⟨nS, nC, nSelf, nF, nD, nCell⟩, ⟨kF, kG, kCo⟩, hbind, hlook, hm⟩ := T.fn
  obtain ⟨lself, lf⟩ := hlook (.ref x) us hl
  obtain ⟨cd, hcd2, hmro, hhd⟩ := T.toClsK.data
  obtain ⟨oD, hD1, hD2⟩ : ∃ oD, s.heap.get? C = some oD ∧ oD.data = .cls cd := by
    unfold clsIn at hcd2
    split at hcd2
    · rename_i c d cd' sl ho'
      cases hcd2
      exact ⟨_, X _ _ ho', rfl⟩
    · cases hcd2
  have hxC : x ≠ C := fun z => by
    rw [z, hD1] at hx
    cases hx
    cases hD2
  refine ks_codeAny_call_defAt (fd := ksFn "__init__" qual par (stS msg p1 p2 p3 p4 p5 :: fp.map stF) sc dV kV doc pm an (.ref cda) ct cc) (body := stS msg p1 p2 p3 p4 p5 :: fp.map stF) (binds := ("self", .ref x) :: fs.zip us) hroom (X _ _ ho) rfl hlim (codeRec_of X hcd) rfl (hbind s (.ref x) us hl) nCell ?_ (fun h₁ hns hk₁ => ?_) kCo kG kF
  · intro y hy
    rcases List.mem_cons.mp hy with rfl | hy
    · exact nSelf
    · exact nF _ (List.of_mem_zip hy).1
  have X₁ : K.In h₁ := X.keeps hk₁
  have hx₁ := hk₁ _ _ hx
  have hLx : s.heap.objs.size ≠ x := Nat.ne_of_gt (Heap.lt_size hx)
  have hMsg : MsgOk msg (ksEnv qual sc s.heap.objs.size fI (.ref cda) cc) (fun y => (((("self" : Str), Value.ref x) :: fs.zip us).reverse.lookup y)) := by
    intro prog w A E s1 Q hn1 hq1
    rcases hm with ⟨_, z, i, p, rfl⟩ | ⟨htm, z, f, i, p, p', p'', rfl, hz, hf⟩
    · exact wpAny_Constant_str (hq1 _ _)
    · cases lf with
      | nil => cases hf
      | cons h1 _ =>
        cases hf
        obtain ⟨z2, t2, rfl, hz2⟩ := hmsg htm _ rfl
        refine wpAny_BinOp (wpAny_Constant_str (ld (env := ksEnv qual sc s.heap.objs.size fI (.ref cda) cc) hn1 h1 ?_ kF (nF _ (List.mem_cons_self ..)) (nD _ (List.mem_cons_self ..))))
        exact add_str (fun t' tk => hq1 _ _) (by rw [sizeLine_eq]; omega)
  obtain ⟨kind, names, isG, isC, more⟩ := sc
  dsimp only at kF kG kCo nS nC nSelf nF nCell
  subst kF kG kCo
  obtain ⟨pl, he⟩ : ∃ pl, eval (.Call (.Attribute (.Call (.Name "super" p1) [] [] p2) "__init__" p3) [msg] [] p4) (ksEnv qual ⟨.function, names, false, false, more⟩ s.heap.objs.size fI (.ref cda) cc) = (do
      let ov ← attributeBase (.Call (.Name "super" p1) [] [] p2) "__init__" (ksEnv qual ⟨.function, names, false, false, more⟩ s.heap.objs.size fI (.ref cda) cc) (eval (.Call (.Name "super" p1) [] [] p2) (ksEnv qual ⟨.function, names, false, false, more⟩ s.heap.objs.size fI (.ref cda) cc))
      standAt p3.atName
      let (f, first) ← holding [ov] (getMethod ov "__init__" pl)
      callWith p4 f first (backTo p4 (starEach [msg] (ksEnv qual ⟨.function, names, false, false, more⟩ s.heap.objs.size fI (.ref cda) cc))) []) := by
    have hmp : ∀ o env, methodCallPos true o env p3 p4 = pure p4 := fun o env => by
      unfold methodCallPos
      rw [hpos] <;> rfl
    have key : ∀ ms : Expr, methodCallForm ([ms].length + ([] : List Keyword).length) (backTo p4 (starEach [ms] (ksEnv qual ⟨.function, names, false, false, more⟩ s.heap.objs.size fI (.ref cda) cc))) (backToKw p4 (keywordEach [] (ksEnv qual ⟨.function, names, false, false, more⟩ s.heap.objs.size fI (.ref cda) cc))) = true →
        eval (.Call (.Attribute (.Call (.Name "super" p1) [] [] p2) "__init__" p3) [ms] [] p4) (ksEnv qual ⟨.function, names, false, false, more⟩ s.heap.objs.size fI (.ref cda) cc) = (do
      let ov ← attributeBase (.Call (.Name "super" p1) [] [] p2) "__init__" (ksEnv qual ⟨.function, names, false, false, more⟩ s.heap.objs.size fI (.ref cda) cc) (eval (.Call (.Name "super" p1) [] [] p2) (ksEnv qual ⟨.function, names, false, false, more⟩ s.heap.objs.size fI (.ref cda) cc))
      standAt p3.atName
      let (f, first) ← holding [ov] (getMethod ov "__init__" (do return (← importBound (.Call (.Name "super" p1) [] [] p2) (ksEnv qual ⟨.function, names, false, false, more⟩ s.heap.objs.size fI (.ref cda) cc)).getD true))
      callWith p4 f first (backTo p4 (starEach [ms] (ksEnv qual ⟨.function, names, false, false, more⟩ s.heap.objs.size fI (.ref cda) cc))) []) := by
      intro ms hf
      show (do
        let ov ← attributeBase (.Call (.Name "super" p1) [] [] p2) "__init__" (ksEnv qual ⟨.function, names, false, false, more⟩ s.heap.objs.size fI (.ref cda) cc) (eval (.Call (.Name "super" p1) [] [] p2) (ksEnv qual ⟨.function, names, false, false, more⟩ s.heap.objs.size fI (.ref cda) cc))
        standAt p3.atName
        methodCall (.Call (.Name "super" p1) [] [] p2) "__init__" p3 p4 (ksEnv qual ⟨.function, names, false, false, more⟩ s.heap.objs.size fI (.ref cda) cc) ov ([ms].length + ([] : List Keyword).length) (backTo p4 (starEach [ms] (ksEnv qual ⟨.function, names, false, false, more⟩ s.heap.objs.size fI (.ref cda) cc))) (backToKw p4 (keywordEach [] (ksEnv qual ⟨.function, names, false, false, more⟩ s.heap.objs.size fI (.ref cda) cc)))) = _
      unfold methodCall
      simp only [hf, hmp, pure_bind]
      rfl
    rcases hm with ⟨_, z, i, p, rfl⟩ | ⟨htm, z, f, i, p, p', p'', rfl, hz, hf⟩
    · exact ⟨_, key _ rfl⟩
    · exact ⟨_, key _ rfl⟩
  have hst : starEach [msg] (ksEnv qual ⟨.function, names, false, false, more⟩ s.heap.objs.size fI (.ref cda) cc) = [(false, eval msg (ksEnv qual ⟨.function, names, false, false, more⟩ s.heap.objs.size fI (.ref cda) cc))] := by
    rcases hm with ⟨_, z, i, p, rfl⟩ | ⟨htm, z, f, i, p, p', p'', rfl, hz, hf⟩
    · rfl
    · rfl
  -- super().__init__(..)
  refine ks_wpAt_execs_cons (ks_wpAt_Expr_any (ks_wpAt_MethodCall (pl := pl) ?_ he))
  refine ks_wpAt_super_base (env := ksEnv qual ⟨.function, names, false, false, more⟩ s.heap.objs.size fI (.ref cda) cc) nS nC (by decide) rfl (hk₁ _ _ (X _ _ ho)) rfl har rfl (X₁ _ _ hcda) rfl hfile hfe T.top ?_
  refine ks_loadName_global rfl nS (loadGlobal_builtin (env := ksEnv qual ⟨.function, names, false, false, more⟩ s.heap.objs.size fI (.ref cda) cc) (hg.keeps hk₁) T.msup (hb.keeps hk₁) (hbs.trans (by first | boot_by_name | rfl | kernel_rfl)) ⟨rfl, ?_⟩)
  refine wpAny_loadName_free rfl nC rfl ⟨_, X₁ _ _ hcell, rfl⟩ ?_
  rw [hself]
  refine wpAny_loadName_local rfl nSelf hns lself ?_
  refine ks_wpAny_isType_cls (hk₁ _ _ hD1) hD2 ⟨rfl, ?_⟩
  refine ks_wpAny_call_super (hk₁ _ _ hD1) hD2 hx₁ rfl (fun c e => by cases e) (looks_mroIn X₁ T.mro) (fun h₂ eso k₂ => ?_)
  have X₂ : K.In h₂ := X₁.keeps k₂
  have hx₂ := k₂ _ _ hx₁
  have hnsU : ∀ {h : Heap}, (∀ b o, h₁.get? b = some o → h.get? b = some o) → h.Ns s.heap.objs.size (fun y => ((("self" : Str), Value.ref x) :: fs.zip us).reverse.lookup y) := fun {h} k => hns.keeps k
  have hsup := T.sup
  unfold ks_superIn at hsup
  rw [hcd2] at hsup
  refine kxs_getMethod kxs_ValueError (K := K) eso (looks_opaque X₂ T.opq) (l₀ := cd.mro) ?_ rfl X₂ hsup ?_ hxC (by decide) ?_
  · exact fun A Q E s k q => wpAny_bind ((looks_clsIn X₂ hcd2) A _ E s k (wpAny_pure q))
  · exact (InstAt.type (od := none) ⟨hx₂, rfl, rfl, trivial⟩).andThen (looks_subIn X₂ T.veC)
  · have k₃ : ∀ b o, h₂.get? b = some o → (h₂.push (kxs_mw "ValueError.__init__" x)).get? b = some o := fun b o e => Heap.get?_push_of_some _ e
    show wpAny _ _ (callWith p4 (.ref h₂.objs.size) [] (backTo p4 (starEach [msg] (ksEnv qual ⟨.function, names, false, false, more⟩ s.heap.objs.size fI (.ref cda) cc))) []) _ _ _
    rw [hst]
    refine kxs_callWith (i := "ValueError.__init__") (x := x) rfl (evalArgs_plain ?_)
    refine spliced_cons ?_
    refine hMsg prog w _ _ _ _ (hnsU fun b o e => k₃ b o (k₂ b o e)) (fun v tk => spliced_nil ⟨?_, ?_⟩)
    · exact Heap.get?_push_at rfl rfl
    · refine call_bw T.toClsK (X₂.keeps k₃) (k₃ _ _ hx₂) (Heap.get?_push_at rfl rfl) (by rw [sizeLine_eq]; exact (by decide : 1 ≤ 16777216)) (fun h₄ t1 k₄ hx₄ => ?_)
      have hsz : ∀ {b : Addr} {o : Obj}, s.heap.get? b = some o → b ≠ x → h₄.get? b = some o := fun {b o} e hb => k₄ b o hb (k₃ b o (k₂ b o (hk₁ b o e)))
      have hL4 : h₄.Ns s.heap.objs.size (fun y => ((("self" : Str), Value.ref x) :: fs.zip us).reverse.lookup y) := by
        obtain ⟨o, es, ep, e1, e2⟩ := hns
        exact ⟨o, es, ep, k₄ _ _ hLx (k₃ _ _ (k₂ _ _ e1)), e2⟩
      cases fp with
      | nil => exact absurd hfp.symm (by simpa using hne)
      | cons q fp =>
        have hP : Paired (fun (q : FP) u => ((("self" : Str), Value.ref x) :: fs.zip us).reverse.lookup q.1 = some u) (q :: fp) us := by
          rw [← hfp] at lf
          have key : ∀ (m : Str → Option Value) (l : List FP) (us : List Value), Paired (fun f u => m f = some u) (l.map (·.1)) us → Paired (fun (q : FP) u => m q.1 = some u) l us := by
            intro m l
            induction l with
            | nil => intro us h; cases h; exact .nil
            | cons a l ih => intro us h; cases h with | cons h1 h2 => exact .cons h1 (ih _ h2)
          have := key (fun y => ((("self" : Str), Value.ref x) :: fs.zip us).reverse.lookup y) (q :: fp) us (by simpa [hfp] using lf)
          exact this
        show wpAt _ _ _ (execs ((q :: fp).map stF) _) _ _ _
        refine wpAt_of_wpAny (stores_new (m := fun y => (((("self" : Str), Value.ref x) :: fs.zip us).reverse.lookup y)) T.toClsK (env := ksEnv qual ⟨.function, names, false, false, more⟩ s.heap.objs.size fI (.ref cda) cc) rfl nSelf lself q fp us vs hv (fun q' hq' => ?_) hP ⟨h₄, s.gens, s.drawn, tk, s.os⟩ _ ((fun a o e => hsz (X a o e) (fun z => by rw [z, hnx] at e; cases e))) hL4 hLx hnx hx₄ ?_ (fun h' tk' dx mB k5 dn dne hx5 hn5 r5 => ?_))
        · have hin : q'.1 ∈ fs := by rw [← hfp]; exact List.mem_map_of_mem hq'
          exact ⟨hin, nF _ hin, nD _ hin⟩
        · have : (q :: fp).length = fs.length := by rw [← hfp, List.length_map]
          simp only [List.length_cons] at this
          omega
        · refine hq h' tk' dx t1 ⟨fun b o hb e => k5 b o hb (hsz e hb), hx5, ?_, dne, mB, hn5, ?_⟩
          · refine Nat.le_trans ?_ dn
            have z1 : s.heap.objs.size < h₄.objs.size := by
              obtain ⟨o, es, ep, e1, e2⟩ := hL4
              exact Heap.lt_size e1
            exact Nat.le_of_lt z1
          · intro f
            have := r5 f
            rw [hfp] at this
            exact this
/-- a made error -/
structure OwnMade (h h' : Heap) (e C d : Addr) (fs : List Str) (vs : List L2.V) : Prop where
  keep : ∀ b o, h.get? b = some o → h'.get? b = some o
  new : h.objs.size ≤ e
  obj : ∃ oe as, h'.get? e = some oe ∧ oe.cls = .ref C ∧ oe.dict = some d ∧ oe.data = .fields as ∧ as[1]? = some .none
  dbig : h.objs.size ≤ d
  dne : d ≠ e
  ns : ∃ mB, h'.Ns1 d mB ∧ ∀ f, L2.RelO ((fs.zip vs).reverse.lookup f) (mB f)
theorem err_made {mg : Str → Option Value} {cn : Str} {fI : Addr} {fs : List Str} {tm : Bool} (T : ErrTxt prog K mg tm cn C fI fs) {us : List Value} {vs : List L2.V} {mb : Str → Option Value} {R : Result → Shared → Prop} (hv : L2.Vals vs us) (hl : us.length = fs.length) (hl8 : fs.length ≤ 8) (hne : fs ≠ [])
    (hmsg : tm = true → ∀ u, us.head? = some u → ∃ (z : Str) (t : Tok), u = .str z t ∧ z.length ≤ 1000)
    (X : K.In s.heap) (hlim : s.heap.NoLimit) (hg : s.heap.Ns mainGlobals mg) (hb : s.heap.Ns builtinsNs mb) (hbs : mb "super" = bootBuiltins "super") (hroom : A.depth + 1 < recursionLimit)
    (hq : ∀ h' tk e d, OwnMade s.heap h' e C d fs vs → R (.ok (.ret (.ref e))) { s with heap := h', toks := tk }) :
    codeAny (model prog w) A (.call (.ref C) ⟨us, []⟩) R s := by
  obtain ⟨nm, q, N, bs, bm, sn, sub, ab, col, dd, k0, k1, k2, k3, k5, hC, hbm⟩ := T.cls
  obtain ⟨hp, g, dr, tk, os⟩ := s
  have k : ∀ b o, hp.get? b = some o → ((hp.push (kdv_tup us)).push (excO C hp.objs.size)).get? b = some o := fun b o e => Heap.get?_push_of_some _ (Heap.get?_push_of_some _ e)
  have hget : ((hp.push (kdv_tup us)).push (excO C hp.objs.size)).get? (hp.objs.size + 1) = some (excO C hp.objs.size) := by heap_get
  have hnx : K.lookup (hp.objs.size + 1) = none := by
    cases e : K.lookup (hp.objs.size + 1) with
    | none => rfl
    | some o =>
      have z : hp.get? (hp.objs.size + 1) = some o := X _ _ e
      exact absurd (Nat.lt_of_succ_lt (Heap.lt_size z)) (Nat.lt_irrefl _)
  refine call_own F.excBase_ValueError (fun X => refsVE_contains X bm hbm) (X _ _ hC) (looks_findIn X T.iC) (fun self => bind_fn X self T.tC) (by rw [sizeLine_eq]; omega) ?_
  refine err_init (s := ⟨(hp.push (kdv_tup us)).push (excO C hp.objs.size), g, dr, tk, os⟩) T hv hl hl8 hne hmsg (X.keeps k) (hlim.keeps k) (hg.keeps k) (hb.keeps k) hbs hget hnx ?_ fun h' tk' dx t1 ⟨k', hx, dn, dne, hns⟩ => ?_
  · show A.depth + 1 < recursionLimit
    exact hroom
  · have old : ∀ b o, hp.get? b = some o → h'.get? b = some o := fun b o e => k' b o (Nat.ne_of_lt (Nat.lt_succ_of_lt (Heap.lt_size e))) (k b o e)
    have z : hp.objs.size + 1 + 1 ≤ dx := by
      first
        | (simpa only [Heap.size_push] using dn)
        | exact dn
        | (have q := dn; rw [Heap.size_push, Heap.size_push] at q; exact q)
    exact ⟨rfl, hq h' tk' (hp.objs.size + 1) dx ⟨old, Nat.le_succ _, ⟨_, _, hx, rfl, rfl, rfl, rfl⟩, Nat.le_trans (Nat.le_trans (Nat.le_succ _) (Nat.le_succ _)) z, dne, hns⟩⟩
end
end HErr
end PySem
namespace L2
open PySem PySem.Spec PyProof.Rows PySem.HErr
section
variable {X : Cx} {C fI : Addr} {cn : Str} {fs : List Str} {tm : Bool}
/-- C(e, ..), an error of the package -/
def tMkE (tm : Bool) (C : Addr) (fs : List Str) (ta : TA) : St → Hp → XK → Prop := fun σ H Q => ta σ H fun vs H1 => vs.length = fs.length ∧ (tm = true → ∃ (z : Str) (r : List V), vs = .str z :: r ∧ z.length ≤ 1000) ∧
  ∀ d, H1 d = none → Q (.ref C) (some d) (upd H1 d (.xd (fs.zip vs).reverse))
theorem pmk_err {a : Expr} {as : List Expr} {ta : TA} {p pos : Pos} {k : Nat} (T : ErrTxt X.prog X.K X.mg tm cn C fI fs) (hr : Room k X.A) (ha : PA X (a :: as) ta) (hl8 : fs.length ≤ 8) (hne : fs ≠ []) (hg : Gl X cn := by rfl) (hdb : (cn == ("__debug__" : Str)) = false := by decide)
    (he : starEach (a :: as) X.env = (false, eval a X.env) :: starEach as X.env := by rfl) (hpl : (backTo pos (starEach as X.env)).any (·.1) = false := by rfl) :
    PMk X (.Call (.Name cn p) (a :: as) [] pos) (tMkE tm C fs ta) := by
  intro pins s σ H Q I h
  refine wpAny_Call_Name_kw (ld_glob I hg T.gC ?_ hdb)
  refine PySem.W.callWith_K (h₀ := X.base) I.ok.mod.kin T.kC (thn (ha.run pos pins s σ H _ I h) fun us s1 hh => ?_) he hpl
  obtain ⟨vs, H1, I1, r1, hl, hz, q1⟩ := hh
  refine ⟨I1.kIn, ?_⟩
  show wpAny _ _ (call (.ref C) us) _ _ _
  have hlim := I1.nolimit
  obtain ⟨mb, hb1, hb2⟩ := I1.mod.blt
  have hgl := I1.mod.glob.keeps I1.bk
  have hbl := hb1.keeps I1.bk
  obtain ⟨hp, g, dr, tk, os⟩ := s1
  refine wpAny_call (err_made (mb := mb) T r1 (r1.length.symm.trans hl) hl8 hne ?_ I1.kIn hlim hgl hbl (hb2 "super" (by decide)) (by have := hr.dp; omega) fun h' tk' e d M => ?_)
  · intro ht u hu
    obtain ⟨z, r, rfl, hz5⟩ := hz ht
    cases r1 with
    | cons r0 _ =>
      cases hu
      obtain ⟨t, rfl⟩ := r0
      exact ⟨z, t, rfl, hz5⟩
  show MkP X pins σ Q (.ref e) ⟨h', g, dr, tk', os⟩
  obtain ⟨oe, fv, hoe, hc, hd, hdat, h1⟩ := M.obj
  obtain ⟨mB, hns, hrel⟩ := M.ns
  obtain ⟨G', g1, g2⟩ := restrict h' fun b => decide (b ≠ e)
  have gk : ∀ b, b ≠ e → G'.get? b = h'.get? b := fun b hb => g1 b (decide_eq_true hb)
  have ge : G'.get? e = none := g2 e (by simp)
  have old : ∀ b o, hp.get? b = some o → G'.get? b = some o := fun b o q => (gk b (Nat.ne_of_lt (Nat.lt_of_lt_of_le (Heap.lt_size q) M.new))).trans (M.keep b o q)
  have ob : ObjOk X.prog X.w (upd H1 d (.xd (fs.zip vs).reverse)) G' d (.xd (fs.zip vs).reverse) :=
    ⟨mB, hns.at (fun o q => (gk d M.dne).trans q), hrel⟩
  have J : Inv X pins σ (upd H1 d (.xd (fs.zip vs).reverse)) ⟨G', g, dr, tk', os⟩ := I1.laid (t' := tk') old M.dbig ob
  refine ⟨e, oe, fv, ⟨G', g, dr, tk', os⟩, _, .ref C, some d, rfl, J, fun b o q => ?_, ge, hoe, ⟨hc, hd⟩, hdat, h1, ?_, rfl, I1.bare, raises_own T.exC T.tyC, q1 d (I1.hok.fresh M.dbig)⟩
  · by_cases hb : b = e
    · have q' : G'.get? b = some o := q
      rw [hb, ge] at q'; cases q'
    · exact (gk b hb).symm.trans q
  · rw [upd_ne (Ne.symm M.dne)]
    exact I1.hok.fresh M.new
/-- raise C(e, ..) -/
def tRaiseE (tm : Bool) (C : Addr) (fs : List Str) (W : WX) (ta : TA) : TS := fun _ σ H => tMkE tm C fs ta σ H fun cls d H' => W cls d σ H'
theorem ps_raiseE {a : Expr} {as : List Expr} {ta : TA} {W : WX} {p pos pos2 : Pos} {k : Nat} (hc : X.calm = true) (T : ErrTxt X.prog X.K X.mg tm cn C fI fs) (hr : Room k X.A) (tk : Takes X W) (ha : PA X (a :: as) ta) (hl8 : fs.length ≤ 8 := by decide) (hne : fs ≠ [] := by decide) (hg : Gl X cn := by rfl) (hdb : (cn == ("__debug__" : Str)) = false := by decide)
    (he : starEach (a :: as) X.env = (false, eval a X.env) :: starEach as X.env := by rfl) (hpl : (backTo pos (starEach as X.env)).any (·.1) = false := by rfl) :
    PS X (.Raise (some (.Call (.Name cn p) (a :: as) [] pos)) none pos2) (tRaiseE tm C fs W ta) := ps_raise hc tk (pmk_err T hr ha hl8 hne hg hdb he hpl)
/-- an own class in an except clause -/
theorem _root_.PySem.HErr.ErrTxt.xf {P : Program} {K : PySem.W.Frag} {mg : Str → Option Value} (T : ErrTxt P K mg tm cn C fI fs) : XfC K C := ⟨T.ga, T.gg, T.exC, T.hdC⟩
theorem _root_.PySem.HErr.ErrTxt.te {P : Program} {K : PySem.W.Frag} {mg : Str → Option Value} (T : ErrTxt P K mg tm cn C fI fs) : PySem.W.exmOne K (.ref C) (.ref C) = some true := PySem.W.exm_ref T.exC T.hdC T.tyC T.sub
/-- what isinstance asks of the class of an error -/
structure IsC (K : PySem.W.Frag) (D : Addr) : Prop where
  hg : PySem.W.findIn K (.ref D) "__getattribute__" = some (some (.builtin "BaseException.__getattribute__"))
  hk : PySem.W.findIn K (.ref D) "__getattr__" = some none
  hs : PySem.W.subIn K (.ref D) (.type "BaseException") = some true
  hd : PySem.W.hasDictIn K D = true
  ha : PySem.W.findIn K (.ref D) "__class__" = some (some (.builtin "object.__class__"))
  hn : PySem.W.specialIn K (.builtin "object.__class__") "__get__" = some (some (.builtin "getset_descriptor.__get__"))
  ht : PySem.W.takesIn K (.builtin "object.__class__") = some true
  hm : PySem.W.mroIn K D (.type "object") = some true
theorem _root_.PySem.HErr.ErrTxt.isC {P : Program} {K : PySem.W.Frag} {mg : Str → Option Value} (T : ErrTxt P K mg tm cn C fI fs) : IsC K C := ⟨T.ga, T.gg, T.exC, T.hdC, T.ca, T.cg, T.ct, T.mo⟩
/-- isinstance(e, c), e the error (with fields) that the suite holds -/
def rIsD (K : PySem.W.Frag) (cls : Value) (d : Option Addr) (a : Addr) : List V → Hp → VK → Prop := fun xs H Q => ∃ (D dd : Addr) (fs : List (Str × V)) (c : V) (cv : Value) (b : Bool), cls = .ref D ∧ IsC K D ∧ d = some dd ∧ H dd = some (.xd fs) ∧ xs = [.ref a, c] ∧ (∀ u, RelV c u → u = cv) ∧ PySem.W.kitOne K (.ref D) cv = some b ∧ Q (.bl b) H
theorem call_isD {a : Addr} {oe : Obj} {cls : Value} {d : Option Addr} {pn : List (Addr × Obj)} (hz : Zc cls d oe) (hf : ∃ vs, oe.data = .fields vs) : CallR (X.suite a ((a, oe) :: pn)) (.builtin "isinstance") (rIsD X.K cls d a) := by
  intro pins s σ H xs us Q I r h
  obtain ⟨D, dd, fs, c, cv, b, rfl, C, rfl, hdd, rfl, hcv, e, q⟩ := h
  cases r with
  | cons rx rr =>
    cases rr with
    | cons rt rr =>
      cases rr
      cases rx
      have ec := hcv _ rt
      subst ec
      obtain ⟨hget, _⟩ := I.pin (a, oe) (List.mem_append.mpr (.inl List.mem_cons_self))
      obtain ⟨vs, hv⟩ := hf
      have hx : ObjOk X.prog X.w H s.heap dd (.xd fs) := I.hok dd _ hdd
      obtain ⟨mA, hns, hr⟩ := hx
      obtain ⟨od, ho, hl⟩ := lookIn_ns hns
      have J : PySem.W.InstAt s.heap a oe D (some od) := ⟨hget, hz.1, by unfold PySem.W.notCls; rw [hv] <;> rfl, by rw [hz.2]; exact ho⟩
      have hcl : (PySem.W.clsIn X.K D).isSome = true := by
        obtain ⟨cd, hc, _⟩ := PySem.W.any_some C.hd
        rw [hc]
        rfl
      exact PySem.W.kia_one (PySem.W.kitx_exc hcl C.hg C.hk C.hs C.ha C.hn C.ht C.hm) I.kIn J e (fun z => nomatch z) fun tk => ⟨.bl b, H, I.kept (t' := tk) fun _ _ z => z, rfl, q⟩
end
end L2

set_option Elab.async false
set_option linter.all false
set_option maxRecDepth 100000
set_option maxHeartbeats 4000000
/-! try with several except clauses, each with or without a name. -/
namespace L2
open PySem PySem.Spec PyProof.Rows PySem.HErr
abbrev Clause := Value × Option Nat × (Addr → Value → Option Addr → TS)
def endsAt (o : Option Nat) (D : Ends) : Ends := match o with
  | none => D
  | some i => { nx := fun σ H => D.nx (σ.set i none) H, rt := D.rt, bk := fun σ H => D.bk (σ.set i none) H, ct := fun σ H => D.ct (σ.set i none) H }
def slotAt (o : Option Nat) (a : Addr) (σ : St) : St := match o with
  | none => σ
  | some i => σ.set i (some (.ref a))
/-- what the clauses want of an exception of the body, from the first on -/
def wClauses (K : PySem.W.Frag) (Wout : WX) (D : Ends) : List Clause → WX
  | [] => Wout
  | (c, o, ts) :: r => fun cls d σ H => ∃ b, PySem.W.exmOne K cls c = some b ∧ (b = true → ∀ a, H a = none → ts a cls d (endsAt o D) (slotAt o a σ) H) ∧ (b = false → wClauses K Wout D r cls d σ H)
inductive Clauses (X : Cx) : List ExceptHandler → List Clause → Prop
  | nil : Clauses X [] []
  | bare {x : Str} {c : Value} {ts : Addr → Value → Option Addr → TS} {b₀ : Stmt} {suite : List Stmt} {np pos' : Pos} {hds : List ExceptHandler} {l : List Clause} (hc : Names X x c)
      (hsu : ∀ (a : Addr) (oe : Obj) (cls : Value) (d : Option Addr) (pn : List (Addr × Obj)), Zc cls d oe → (∃ vs, oe.data = .fields vs) → PSs (X.suite a ((a, oe) :: pn)) (b₀ :: suite) (ts a cls d)) (r : Clauses X hds l) :
      Clauses X (.ExceptHandler (some (.Name x np)) none (b₀ :: suite) pos' :: hds) ((c, none, ts) :: l)
  | named {x n : Str} {i : Nat} {c : Value} {ts : Addr → Value → Option Addr → TS} {b₀ : Stmt} {suite : List Stmt} {np pos' : Pos} {hds : List ExceptHandler} {l : List Clause} (hi : X.N[i]? = some n) (hln : X.env.kindOf n = some .local) (hc : Names X x c)
      (hsu : ∀ (a : Addr) (oe : Obj) (cls : Value) (d : Option Addr) (pn : List (Addr × Obj)), Zc cls d oe → (∃ vs, oe.data = .fields vs) → PSs (X.suite a ((a, oe) :: pn)) (b₀ :: suite) (ts a cls d)) (r : Clauses X hds l) :
      Clauses X (.ExceptHandler (some (.Name x np)) (some n) (b₀ :: suite) pos' :: hds) ((c, some i, ts) :: l)
section
variable {X : Cx} {body : List Stmt} {h₀ : ExceptHandler} {hds : List ExceptHandler} {l : List Clause} {pos : Pos} {tb : WX → TS} {Wout : WX}
theorem ps_try_all (hs : X.stack = X.env :: X.outer) (hf : X.env.frame = some X.env.locals) (hN : X.N.Nodup) (tk : Takes X Wout)
    (hb : ∀ (W : WX) (pn : List (Addr × Obj)) (xe : Value → Shared → Prop), Takes (X.tr pn xe) W → PassesOwn (model X.prog X.w) X.A X.env xe → PSs (X.tr pn xe) body (tb W))
    (hh : Clauses X (h₀ :: hds) l) {K : PySem.W.Frag} (hK : X.K = K := by rfl) : PS X (.Try body (h₀ :: hds) [] [] pos) (fun D σ H => tb (wClauses K Wout D l) D σ H) := by
  subst hK
  refine ⟨fun pins s σ H D I h => ?_⟩
  have ok := I.ok
  have hfr : X.A.frames = some (X.env :: X.outer) := by rw [ok.frames, hs]
  refine wpAny_Try_except ?_
  refine wpAny_mono ((hb (wClauses X.K Wout D l) (X.pn ++ pins) (fun e s₁ => wpAny (model X.prog X.w) X.A (noteFrame e X.env) (fun _ s₂ => wpAny (model X.prog X.w) X.A (setFlight e none) (fun _ s₃ =>
    wpAny (model X.prog X.w) X.A (handleBy e X.env (h₀ :: hds)) (SP X pins D) X.xe s₃) X.xe s₂) X.xe s₁) (fun u s' xx => ?_) PassesOwn.looking).run [] s σ H D (I.toTry _) h) (fun f s1 hsp => ?_) (fun e s1 he => he)
  · obtain ⟨a, Bg, sI, pins', σ', H', cls, d, rfl, J', nb, up, sky, na, os, ag, ww⟩ := xx
    have J : Inv X pins σ' H' sI := J'.ofTry ok
    have sky' : Sky Bg (X.env :: X.outer) a (Zc cls d) X.env.locals s'.heap := by rw [← hs]; exact sky
    show wpAny (model X.prog X.w) X.A (noteFrame (.ref a) X.env) _ _ _
    refine Sky.land Zc.steady hfr hf sky' fun h3 fl3 up3 => ?_
    have J3 : Inv X pins σ' H' { s' with heap := h3 } := J.landed nb fl3.1 (up.trans up3) os ag
    obtain ⟨oe3, vs3, he3, hz3, hd3⟩ := fl3.there
    have nfr : a ∉ frs (X.env :: X.outer) := fun hm => by
      obtain ⟨_, o', e', hnf⟩ := fl3.2.2.1.mem hm
      rw [he3] at e'
      cases e'
      exact hnf _ hd3
    have nL : a ≠ X.env.locals := fun z => nfr (List.mem_filterMap.mpr ⟨X.env, List.mem_cons_self, by rw [hf, z]⟩)
    have nF : a ∉ X.fs := fun hm => by
      obtain ⟨e, he, q⟩ := List.mem_filterMap.mp hm
      exact nfr (List.mem_filterMap.mpr ⟨e, List.mem_cons_of_mem _ he, q⟩)
    have S3 := J3.suite he3 hd3 na nL nF
    have test : ∀ {x : Str} {c : Value} {np : Pos} {Q : Value → Shared → Prop} {E : Value → Shared → Prop}, Names X x c → Q c { s' with heap := h3 } → wpAny (model X.prog X.w) (X.A.mark (some (.ref a))) (eval (.Name x np) X.env) Q E { s' with heap := h3 } := fun {x c np Q E} hc q => by
      obtain ⟨hg, hdbg, hm | ⟨hm, hv, hnn⟩⟩ := hc
      · exact ld_glob (X := X.suite a ((a, oe3) :: (X.pn ++ pins))) S3 hg hm q hdbg
      · exact ld_blt (X := X.suite a ((a, oe3) :: (X.pn ++ pins))) S3 hg hm hv q hnn hdbg
    have LT : PySem.W.Looks (model X.prog X.w) h3 (typeOf (.ref a)) cls := fun A Q E s k q => wpAny_typeOf_ref (k _ _ he3) (by rw [hz3.1]; exact q)
    have go : ∀ {hds' : List ExceptHandler} {l' : List Clause}, Clauses X hds' l' → wClauses X.K Wout D l' cls d σ' H' →
        wpAny (model X.prog X.w) X.A (handleBy (.ref a) X.env hds') (SP X pins D) X.xe { s' with heap := h3 } := by
      intro hds' l' hk
      induction hk with
      | nil =>
        intro ww
        refine wpAny_handleBy_nil ?_
        obtain ⟨k1, k2, k3, oe, vs, T, oT, ts', he, hz, hd, h1, hr⟩ := id fl3
        unfold PySem.passOn
        refine wpAny_bind (wpAny_field he hd h1 ?_)
        rw [if_neg (show ¬ ((Value.ref T == Value.none) = true) from by simp)]
        have fin : wpAny (model X.prog X.w) X.A (setFlight (.ref a) X.env.frame) (fun _ s4 => wpAny (model X.prog X.w) X.A (throw (.ref a) : Sem Flow) (SP X pins D) X.xe s4) X.xe { s' with heap := h3 } := by
          rw [hf]
          refine HandSPX.setFlight_upZ fl3 fun h4 hh4 up4 => wpAny_throw (tk _ _ ?_)
          exact ⟨a, Bg, sI, pins, σ', H', cls, d, rfl, J, nb, (up.trans up3).trans up4, .inr (.inr (by rw [hs]; exact hh4)), na, os, ag, ww⟩
        first
          | exact wpAny_bind (wpAny_pure (wpAny_bind fin))
          | exact wpAny_bind fin
      | @bare x c ts b₀ suite np pos' hds2 l2 hc hsu r ih =>
        intro ww
        obtain ⟨b, hb1, hyes, hno⟩ := ww
        refine wpAny_handleBy_cons (codeAny_handlers_test ?_) (by intro q; cases q)
        have LM := PySem.W.exm_one (M := model X.prog X.w) (J3.kIn) LT hb1
        refine test hc (LM.here ?_)
        cases b with
        | true =>
          refine codeAny_handlers_suite (HandSPX.lands_againZ fl3 fun h4 fl4 up4 => ?_)
          have J4 : Inv X pins σ' H' { s' with heap := h4 } := J.landed nb fl4.1 ((up.trans up3).trans up4) os ag
          obtain ⟨oe4, vs4, he4, hz4, hd4⟩ := fl4.there
          have S4 := J4.suite he4 hd4 na nL nF
          refine wpAny_mono ((hsu a oe4 cls d (X.pn ++ pins) hz4 ⟨_, hd4⟩).run [] _ _ H' _ S4 (hyes rfl a na)) (fun f s6 hsp => ?_) (fun _ _ z => False.elim z)
          cases f with
          | ret u =>
            obtain ⟨v6, σ6, H6, S6, r6, q6⟩ := hsp
            exact ⟨_, _, _, S6.unsuite ok, r6, q6⟩
          | _ =>
            obtain ⟨σ6, H6, S6, q6⟩ := hsp
            exact ⟨_, _, S6.unsuite ok, q6⟩
        | false =>
          show wpAny _ X.A (handleBy (.ref a) X.env hds2) _ _ _
          exact ih (hno rfl)
      | @named x n i c ts b₀ suite np pos' hds2 l2 hi hln hc hsu r ih =>
        intro ww
        obtain ⟨b, hb1, hyes, hno⟩ := ww
        refine wpAny_handleBy_cons (codeAny_handlers_test ?_) (by intro q; cases q)
        have LM := PySem.W.exm_one (M := model X.prog X.w) (J3.kIn) LT hb1
        refine test hc (LM.here ?_)
        cases b with
        | true =>
          refine codeAny_handlers_suite_as (HandSPX.lands_againZ fl3 fun h4 fl4 up4 => ?_)
          have J4 : Inv X pins σ' H' { s' with heap := h4 } := J.landed nb fl4.1 ((up.trans up3).trans up4) os ag
          obtain ⟨oe4, vs4, he4, hz4, hd4⟩ := fl4.there
          have S4 := J4.suite he4 hd4 na nL nF
          refine store_ok (X := X.suite a ((a, oe4) :: (X.pn ++ pins))) (v := .ref a) S4 hN hi (.inl hln) rfl (fun s5 S5 => ?_) (.inr hln)
          refine wpAny_mono ((hsu a oe4 cls d (X.pn ++ pins) hz4 ⟨_, hd4⟩).run [] s5 _ H' _ S5 (hyes rfl a na)) (fun f s6 hsp => ?_) (fun _ _ z => False.elim z)
          have end_ : ∀ {σ6 : St} {H6 : Hp} {Q : Shared → Prop}, Inv (X.suite a ((a, oe4) :: (X.pn ++ pins))) [] σ6 H6 s6 → (∀ s7, Inv X pins (σ6.set i none) H6 s7 → Q s7) →
              wpAny (model X.prog X.w) X.A (do bindName X.env n .none; unbindBehindTheSuite X.env n pos') (fun _ s7 => Q s7) X.xe s6 := fun {σ6 H6 Q} S6 hq => gone_ok (S6.unsuite ok) hN hi hln hq
          cases f with
          | ret u =>
            obtain ⟨v6, σ6, H6, S6, r6, q6⟩ := hsp
            exact end_ S6 fun s7 J7 => ⟨_, _, _, J7, r6, q6⟩
          | next =>
            obtain ⟨σ6, H6, S6, q6⟩ := hsp
            exact end_ S6 fun s7 J7 => ⟨_, _, J7, q6⟩
          | brk =>
            obtain ⟨σ6, H6, S6, q6⟩ := hsp
            exact end_ S6 fun s7 J7 => ⟨_, _, J7, q6⟩
          | cont =>
            obtain ⟨σ6, H6, S6, q6⟩ := hsp
            exact end_ S6 fun s7 J7 => ⟨_, _, J7, q6⟩
        | false =>
          show wpAny _ X.A (handleBy (.ref a) X.env hds2) _ _ _
          exact ih (hno rfl)
    exact go hh ww
  · cases f with
    | next =>
      obtain ⟨σ', H', J', q⟩ := hsp
      exact wpAny_execs_nil ⟨σ', H', J'.ofTry ok, q⟩
    | brk =>
      obtain ⟨σ', H', J', q⟩ := hsp
      exact ⟨σ', H', J'.ofTry ok, q⟩
    | cont =>
      obtain ⟨σ', H', J', q⟩ := hsp
      exact ⟨σ', H', J'.ofTry ok, q⟩
    | ret u =>
      obtain ⟨v, σ', H', J', r, q⟩ := hsp
      exact ⟨v, σ', H', J'.ofTry ok, r, q⟩
end
end L2

set_option Elab.async false
set_option linter.all false
set_option maxRecDepth 100000
set_option maxHeartbeats 4000000
/-! Defs by their names; the built-ins that the texts use; a module's constants. -/
namespace L2
open PySem PySem.Spec PyProof.Rows PySem.HErr
/-- none of these built-ins is shadowed -/
structure Bl (mg : Str → Option Value) : Prop where
  len : mg "len" = none
  range : mg "range" = none
  abs : mg "abs" = none
  sum : mg "sum" = none
  sorted : mg "sorted" = none
  isinstance : mg "isinstance" = none
  zip : mg "zip" = none
  enumerate : mg "enumerate" = none
  reversed : mg "reversed" = none
  int' : mg "int" = none
  str' : mg "str" = none
  list' : mg "list" = none
  tuple' : mg "tuple" = none
  bool' : mg "bool" = none
  all' : mg "all" = none
  any' : mg "any" = none
  ValueError : mg "ValueError" = none
/-- the module's name x is the value v -/
def Glo (mg : Str → Option Value) (x : Str) (v : V) : Prop := ∃ u, mg x = some u ∧ RelV v u
/-- a def of the text stands where its name says -/
structure Src (K : PySem.W.Frag) (mg : Str → Option Value) (x : Str) (st : Stmt) (ps : List Str) : Prop where
  ex : ∃ f fd, Fun K x x st f fd ∧ mg x = some (.ref f) ∧ Binds K fd ps []
/-- the def x keeps the promise sp -/
structure Def (P : Program) (w : World) (K : PySem.W.Frag) (mg : Str → Option Value) (base : Heap) (CX : CXT) (k : Nat) (x : Str) (ps : List Str) (sp : Sp) : Prop where
  ex : ∃ f fd, mg x = some (.ref f) ∧ PySem.W.keepIn K (.ref f) = true ∧ Binds K fd ps [] ∧ FnOk P w K mg base CX k f fd ps sp
section
variable {P : Program} {w : World} {K : PySem.W.Frag} {mg : Str → Option Value} {base : Heap} {CX : CXT} {x : Str} {st : Stmt} {N ps : List Str} {k : Nat} {sp : Sp}
theorem Def.mono {j : Nat} (D : Def P w K mg base CX j x ps sp) (h : j ≤ k) : Def P w K mg base CX k x ps sp := by
  obtain ⟨f, fd, h1, h2, h3, h4⟩ := D.ex
  exact ⟨f, fd, h1, h2, h3, h4.mono h⟩
theorem Def.imp {sp' : Sp} (D : Def P w K mg base CX k x ps sp) (h : ∀ vs H Q E, sp' vs H Q E → sp vs H Q E) : Def P w K mg base CX k x ps sp' := by
  obtain ⟨f, fd, h1, h2, h3, h4⟩ := D.ex
  exact ⟨f, fd, h1, h2, h3, h4.imp h⟩
theorem Src.ok (F : Src K mg x st ps) (S : FnScope N ps (defScope st)) (len : ∀ vs H Q E, sp vs H Q E → vs.length = ps.length)
    (hbody : ∀ (f : Addr) (cdv : Value) (A : Around) (outer : List Env) (s : Shared) (H : Hp) (vs : List V) (Q : VK) (E : XK), Room k (A.deeper (envOfC x (defScope st) s.heap.objs.size f cdv)) → sp vs H Q E →
      ∃ t, PSs (cxOf CX0 P w K mg base N x (defScope st) f cdv A outer s H E).nox (defBody st) t ∧ t { nx := fun _ H' => Q .non H', rt := Q } (start N vs) H) : Def P w K mg base CX0 (k + 1) x ps sp := by
  obtain ⟨f, fd, h1, h2, h3⟩ := F.ex
  exact ⟨f, fd, h2, h1.kp, h3, h1.ok S len (hbody f)⟩
theorem Src.okX (F : Src K mg x st ps) (S : FnScope N ps (defScope st)) (len : ∀ vs H Q E, sp vs H Q E → vs.length = ps.length)
    (hbody : ∀ (f : Addr) (cdv : Value) (A : Around) (outer : List Env) (s : Shared) (H : Hp) (vs : List V) (Q : VK) (E : XK), Room k (A.deeper (envOfC x (defScope st) s.heap.objs.size f cdv)) → sp vs H Q E →
      ∃ t, PSs (cxOf (L2.CX P w) P w K mg base N x (defScope st) f cdv A outer s H E) (defBody st) t ∧ t { nx := fun _ H' => Q .non H', rt := Q } (start N vs) H) : Def P w K mg base (L2.CX P w) (k + 1) x ps sp := by
  obtain ⟨f, fd, h1, h2, h3⟩ := F.ex
  exact ⟨f, fd, h2, h1.kp, h3, h1.okX S len (hbody f)⟩
end
section
variable {X : Cx} {CX : CXT} {k : Nat} {ps : List Str} {sp : Sp} {x : Str} {p pos : Pos} {e : Expr} {es : List Expr} {t : TA}
theorem pe_def {E : XK} (D : Def X.prog X.w X.K X.mg X.base CX k x ps sp) (hr : Room k X.A) (hx : Passes CX X E) (ha : PA X (e :: es) t) (hg : Gl X x := by rfl)
    (hdb : (x == ("__debug__" : Str)) = false := by decide) (he : starEach (e :: es) X.env = (false, eval e X.env) :: starEach es X.env := by rfl) (hpl : (backTo pos (starEach es X.env)).any (·.1) = false := by rfl) :
    PE X (.Call (.Name x p) (e :: es) [] pos) (tCall sp [] E t) := by
  obtain ⟨f, fd, h1, h2, h3, h4⟩ := D.ex
  exact pe_call h4 hr hg h1 h2 h3 .nil hx ha hdb he hpl
theorem pe_def0 {E : XK} (D : Def X.prog X.w X.K X.mg X.base CX k x ps sp) (hr : Room k X.A) (hx : Passes CX X E) (hg : Gl X x := by rfl)
    (hdb : (x == ("__debug__" : Str)) = false := by decide) : PE X (.Call (.Name x p) [] [] pos) (tCall sp [] E tNil) := by
  obtain ⟨f, fd, h1, h2, h3, h4⟩ := D.ex
  exact pe_call0 h4 hr hg h1 h2 h3 .nil hx hdb
theorem pe_defS {E : St → XK} (D : Def X.prog X.w X.K X.mg X.base CX k x ps sp) (hr : Room k X.A) (hx : ∀ σ, PassesAt CX X σ (E σ)) (ha : PA X (e :: es) t) (hg : Gl X x := by rfl)
    (hdb : (x == ("__debug__" : Str)) = false := by decide) (he : starEach (e :: es) X.env = (false, eval e X.env) :: starEach es X.env := by rfl) (hpl : (backTo pos (starEach es X.env)).any (·.1) = false := by rfl) :
    PE X (.Call (.Name x p) (e :: es) [] pos) (tCallS sp E t) := by
  obtain ⟨f, fd, h1, h2, h3, h4⟩ := D.ex
  exact pe_callS h4 hr hg h1 h2 h3 hx ha hdb he hpl
theorem pe_glo {v : V} (h : Glo X.mg x v) (hg : Gl X x := by rfl) (hd : (x == ("__debug__" : Str)) = false := by decide) : PE X (.Name x p) (tC v) := by
  obtain ⟨u, h1, h2⟩ := h
  exact pe_glob hg h1 h2 hd
end
/-! the rules that speak of the written part, with its letter told -/
section
variable {X : Cx} {K : PySem.W.Frag}
def rLenQ (K : PySem.W.Frag) : List V → Hp → VK → Prop := fun xs H Q => ∃ p ys, xs = [.ref p] ∧ (SqL K H p ys ∨ SqT K H p ys) ∧ Q (.int ys.length) H
def rListQ (K : PySem.W.Frag) : List V → Hp → VK → Prop := fun xs H Q => ∃ p ys, xs = [.ref p] ∧ (SqL K H p ys ∨ SqT K H p ys) ∧ ∀ l, H l = none → Q (.ref l) (upd H l (.lst ys))
def rTupQ (K : PySem.W.Frag) : List V → Hp → VK → Prop := fun xs H Q => ∃ p ys, xs = [.ref p] ∧ ((SqL K H p ys ∧ ∀ l, H l = none → Q (.ref l) (upd H l (.tup ys))) ∨ (SqT K H p ys ∧ Q (.ref p) H))
theorem kix_list (h : X.K = K := by rfl) : IxR X (rIxL K) := h ▸ ix_list
theorem kix_tup (h : X.K = K := by rfl) : IxR X (rIxT K) := h ▸ ix_tup
theorem kix_seq (h : X.K = K := by rfl) : IxR X (rIx K) := h ▸ ix_seq
theorem ksl_list (h : X.K = K := by rfl) : SlR X (rSlL K) := h ▸ sl_list
theorem ksl_tup (h : X.K = K := by rfl) : SlR X (rSlT K) := h ▸ sl_tup
theorem kop_in (h : X.K = K := by rfl) : OpR X (compareOp .In) (rIn K false) := h ▸ op_in_seq
theorem kop_notIn (h : X.K = K := by rfl) : OpR X (compareOp .NotIn) (rIn K true) := h ▸ op_notIn_seq
theorem kop_eqD (hu : X.A.units + 64 < cLine) (h : X.K = K := by rfl) : OpR X (compareOp .Eq) (rEqD K) := h ▸ op_eqD hu
theorem kop_neD (hu : X.A.units + 64 < cLine) (h : X.K = K := by rfl) : OpR X (compareOp .NotEq) (rNeD K) := h ▸ op_neD hu
theorem kop_catT (h : X.K = K := by rfl) : OpR X (binaryOp .Add) (rCatT K) := h ▸ op_catT
theorem kcall_len (h : X.K = K := by rfl) : CallR X (.builtin "len") (rLenQ K) := h ▸ call_len_seq
theorem kcall_list (h : X.K = K := by rfl) : CallR X (.type "list") (rListQ K) := h ▸ call_list_of
theorem kcall_tuple (h : X.K = K := by rfl) : CallR X (.type "tuple") (rTupQ K) := h ▸ call_tuple_of
theorem kcr_sum (hc : X.calm = true) (h : X.K = K := by rfl) : CallR X (.builtin "sum") (rSum K) := h ▸ cr_sum hc
theorem kcr_any (hc : X.calm = true) (h : X.K = K := by rfl) : CallR X (.builtin "any") (rAny K) := h ▸ cr_any hc
theorem kcr_all (hc : X.calm = true) (h : X.K = K := by rfl) : CallR X (.builtin "all") (rAll K) := h ▸ cr_all hc
theorem kcall_isi (h : X.K = K := by rfl) : CallR X (.builtin "isinstance") (rIsi K) := h ▸ call_isi
theorem kpi_list {tg l : Expr} {tl : TE} (hl : PE X l tl) (h : X.K = K := by rfl) : PI X tg l (iList K tl) := h ▸ pi_list hl
theorem kpi_tup {tg l : Expr} {tl : TE} (hl : PE X l tl) (h : X.K = K := by rfl) : PI X tg l (iTup K tl) := h ▸ pi_tup hl
theorem kpe_fld {e : Expr} {f : Str} {pos : Pos} {ta : TE} (he : PE X e ta) (hb : attributeBase e f X.env (eval e X.env) = eval e X.env := by rfl) (h : X.K = K := by rfl) : PE X (.Attribute e f pos) (tFld K ta f) := h ▸ pe_fld he hb
end
/-- a comprehension without an if; with one -/
theorem yes_if {σ : St} {H : Hp} {A B : Hp → Prop} (h : A H) : tYes σ H (fun b H3 => if b = true then A H3 else B H3) := by
  show (if true = true then A H else B H)
  rw [if_pos rfl]
  exact h
/-! ### heaps -/
theorem same_upd {H : Hp} {p : Addr} {o : HO} (h : H p = none) : Same H (upd H p o) := fun b x e => by
  rw [upd_ne (ne_of_none e h)]
  exact e
theorem upd_twice {H : Hp} {b : Addr} {o o' : HO} : upd (upd H b o) b o' = upd H b o' := by
  funext a
  by_cases ha : a = b
  · rw [ha, upd_same, upd_same]
  · rw [upd_ne ha, upd_ne ha, upd_ne ha]
theorem upd_self' {H : Hp} {b : Addr} {o : HO} (h : H b = some o) : upd H b o = H := by
  funext a
  by_cases ha : a = b
  · rw [ha, upd_same, h]
  · rw [upd_ne ha]
/-- all that was tracked is as it was, but for what stands at b -/
def SameB (b : Addr) (H H' : Hp) : Prop := ∀ a o, a ≠ b → H a = some o → H' a = some o
theorem SameB.refl (b : Addr) (H : Hp) : SameB b H H := fun _ _ _ h => h
theorem SameB.trans {b : Addr} {H H1 H2 : Hp} (x : SameB b H H1) (y : SameB b H1 H2) : SameB b H H2 := fun a o n h => y a o n (x a o n h)
theorem Same.b {b : Addr} {H H' : Hp} (h : Same H H') : SameB b H H' := fun a o _ e => h a o e
theorem SameB.upd {b : Addr} {H H' : Hp} {o : HO} (h : SameB b H H') : SameB b H (upd H' b o) := fun a u n e => by
  rw [upd_ne n]
  exact h a u n e
theorem SameB.new {b p : Addr} {H H' : Hp} {o : HO} (h : SameB b H H') (n : H' p = none) : SameB b H (L2.upd H' p o) := fun a u hn e => by
  have := h a u hn e
  rw [upd_ne (ne_of_none this n)]
  exact this
/-- an object that H does not know may change -/
theorem SameB.mut {b p : Addr} {H H' : Hp} {o : HO} (h : SameB b H H') (n : H p = none) : SameB b H (L2.upd H' p o) := fun a u hn e => by
  rw [upd_ne (ne_of_none e n)]
  exact h a u hn e
theorem SameB.free {b l : Addr} {H H' : Hp} (e : SameB b H H') (hb : l ≠ b) (h : H' l = none) : H l = none := by
  cases q : H l with
  | none => rfl
  | some o =>
    rw [e l o hb q] at h
    cases h
theorem SameB.seq {K : PySem.W.Frag} {b : Addr} {H H' : Hp} {a : Addr} {xs : List V} (e : SameB b H H') (n : a ≠ b) (h : SqL K H a xs) : SqL K H' a xs := by
  rcases h with (h | ⟨o, h⟩) | h
  · exact .inl (.inl (e _ _ n h))
  · exact .inl (.inr ⟨o, e _ _ n h⟩)
  · exact .inr h
/-- an error of the class at C with these fields is what E wants, whatever was made meanwhile -/
def Rais (E : XK) (H : Hp) (C : Addr) (fs : List (Str × V)) : Prop := ∀ H' d, Same H H' → H d = none → H' d = some (.xd fs) → E (.ref C) (some d) H'
theorem Rais.go {E : XK} {H H' : Hp} {C d : Addr} {fs : List (Str × V)} (h : Rais E H C fs) (sm : Same H H') (n : H' d = none) : E (.ref C) (some d) (upd H' d (.xd fs)) :=
  h _ d (sm.trans (same_upd n)) (sm.free n) upd_same
/-- the law's box of draws stands at b, its script at l -/
structure Box (H : Hp) (b l : Addr) : Prop where
  ex : ∃ (ns : List Int) (i c r : Int), H b = some (.lst [.int i, .int c, .int r, .ref l]) ∧ H l = some (.lst (ns.map V.int)) ∧ 0 ≤ i ∧ l ≠ b
theorem Box.keep {H H' : Hp} {b l : Addr} (h : Box H b l) (e : Same H H') : Box H' b l := by
  obtain ⟨ns, i, c, r, h1, h2, h3, h4⟩ := h.ex
  exact ⟨ns, i, c, r, e _ _ h1, e _ _ h2, h3, h4⟩
theorem Box.neb {H : Hp} {b l p : Addr} (h : Box H b l) (n : H p = none) : p ≠ b := fun e => by
  obtain ⟨ns, i, c, r, h1, h2, h3, h4⟩ := h.ex
  rw [e, h1] at n
  cases n
theorem Box.nel {H : Hp} {b l p : Addr} (h : Box H b l) (n : H p = none) : p ≠ l := fun e => by
  obtain ⟨ns, i, c, r, h1, h2, h3, h4⟩ := h.ex
  rw [e, h2] at n
  cases n
theorem Box.mut {H : Hp} {b l p : Addr} {o : HO} (h : Box H b l) (nb : p ≠ b) (nl : p ≠ l) : Box (upd H p o) b l := by
  obtain ⟨ns, i, c, r, h1, h2, h3, h4⟩ := h.ex
  exact ⟨ns, i, c, r, by rw [upd_ne (Ne.symm nb)]; exact h1, by rw [upd_ne (Ne.symm nl)]; exact h2, h3, h4⟩
/-- from H to H' only draws were taken and new objects made -/
structure Bx (b l : Addr) (H H' : Hp) : Prop where
  sm : SameB b H H'
  b0 : Box H b l
  b1 : Box H' b l
theorem Box.bx {H : Hp} {b l : Addr} (h : Box H b l) : Bx b l H H := ⟨SameB.refl b H, h, h⟩
theorem Bx.trans {b l : Addr} {H H1 H2 : Hp} (x : Bx b l H H1) (y : Bx b l H1 H2) : Bx b l H H2 := ⟨x.sm.trans y.sm, x.b0, y.b1⟩
theorem Bx.same {b l : Addr} {H H1 H2 : Hp} (x : Bx b l H H1) (y : Same H1 H2) : Bx b l H H2 := ⟨x.sm.trans y.b, x.b0, x.b1.keep y⟩
theorem Bx.new {b l p : Addr} {H H' : Hp} {o : HO} (x : Bx b l H H') (n : H' p = none) : Bx b l H (upd H' p o) := x.same (same_upd n)
theorem Bx.mut {b l p : Addr} {H H' : Hp} {o : HO} (x : Bx b l H H') (n : H p = none) : Bx b l H (upd H' p o) := ⟨x.sm.mut n, x.b0, x.b1.mut (x.b0.neb n) (x.b0.nel n)⟩
theorem Bx.free {b l p : Addr} {H H' : Hp} (x : Bx b l H H') (n : H' p = none) : H p = none := x.sm.free (x.b1.neb n) n
theorem Bx.at {b l a : Addr} {H H' : Hp} {o : HO} (x : Bx b l H H') (h : H a = some o) (n : a ≠ b) : H' a = some o := x.sm a o n h
theorem Bx.seq {K : PySem.W.Frag} {b l : Addr} {H H' : Hp} {a : Addr} {xs : List V} (x : Bx b l H H') (n : a ≠ b) (h : SqL K H a xs) : SqL K H' a xs := x.sm.seq n h
/-- _law_next(box, many) -/
def spNext : Sp := fun vs H Q _ => ∃ (b l : Addr) (many : Int), vs = [.ref b, .int many] ∧ 0 < many ∧ many ≤ 10 ^ 40 ∧ Box H b l ∧ ∀ (n : Int) (H' : Hp), 0 ≤ n → n < many → Bx b l H H' → Q (.int n) H'
/-- _law_box(script) -/
def spBox (K : PySem.W.Frag) : Sp := fun vs H Q _ => ∃ (a : Addr) (ns : List Int), vs = [.ref a] ∧ SqL K H a (ns.map V.int) ∧ ns.length ≤ 63 ∧ ∀ (b l : Addr) (H' : Hp), H b = none → Same H H' → Box H' b l → Q (.ref b) H'
/-! ### plain data: no bools, no dicts -/
/-- a text of ASCII signs -/
def Asc (z : Str) : Prop := ∀ c ∈ z.cps.toList, c < 128
theorem Asc.ok {z : Str} (h : Asc z) : PyData.strOk z = true := by
  unfold PyData.strOk
  rw [← Array.all_toList, List.all_eq_true]
  intro c hc
  have := h c hc
  exact decide_eq_true (by omega)
theorem Asc.app {x y : Str} (hx : Asc x) (hy : Asc y) : Asc (x ++ y) := by
  intro c hc
  rw [Str.cps_append, Array.toList_append] at hc
  rcases List.mem_append.mp hc with h | h
  · exact hx c h
  · exact hy c h
theorem Asc.one {c : Nat} (h : c < 128) : Asc ⟨#[c]⟩ := by
  intro d hd
  have : d = c := by simpa using hd
  omega
theorem Asc.cut {z : Str} (h : Asc z) (lo hi : Option Int) : Asc (cutS z lo hi) := by
  intro c hc
  unfold cutS at hc
  exact h c (List.mem_of_mem_drop (List.mem_of_mem_take (by simpa using hc)))
mutual
def nb : PyData → Bool
  | .none => true
  | .int _ => true
  | .str x => PyData.strOk x
  | .list xs => nbAll xs
  | .tuple xs => nbAll xs
  | .bool _ => false
  | .dict _ => false
def nbAll : List PyData → Bool
  | [] => true
  | x :: xs => nb x && nbAll xs
end
mutual
theorem lay_nb : ∀ d : PyData, nb d = true → PyData.canLay0 d = true
  | .none, _ => by simp only [PyData.canLay0]
  | .int _, _ => by simp only [PyData.canLay0]
  | .str x, h => by simp only [nb] at h; simp only [PyData.canLay0, h]
  | .list xs, h => by simp only [nb] at h; simp only [PyData.canLay0]; exact lay_nbAll xs h
  | .tuple xs, h => by simp only [nb] at h; simp only [PyData.canLay0]; exact lay_nbAll xs h
  | .bool _, h => by simp only [nb] at h; cases h
  | .dict _, h => by simp only [nb] at h; cases h
theorem lay_nbAll : ∀ ds : List PyData, nbAll ds = true → PyData.canLayAll0 ds = true
  | [], _ => by simp only [PyData.canLayAll0]
  | x :: xs, h => by
    simp only [nbAll, Bool.and_eq_true] at h
    simp only [PyData.canLayAll0, lay_nb x h.1, lay_nbAll xs h.2, Bool.and_self]
end
mutual
theorem eqv_nb : ∀ d e : PyData, nb d = true → nb e = true → (PyData.eqv d e = true ↔ d = e)
  | .none, e, _, he => by cases e <;> simp [PyData.eqv]
  | .int i, e, _, he => by cases e <;> simp [PyData.eqv, nb] at he ⊢
  | .str x, e, _, he => by cases e <;> simp [PyData.eqv]
  | .list xs, e, hd, he => by
    cases e with
    | list ys =>
      simp only [nb] at hd he
      simp only [PyData.eqv, eqv_nbAll xs ys hd he, PyData.list.injEq]
    | _ => simp [PyData.eqv]
  | .tuple xs, e, hd, he => by
    cases e with
    | tuple ys =>
      simp only [nb] at hd he
      simp only [PyData.eqv, eqv_nbAll xs ys hd he, PyData.tuple.injEq]
    | _ => simp [PyData.eqv]
  | .bool _, _, h, _ => by simp only [nb] at h; cases h
  | .dict _, _, h, _ => by simp only [nb] at h; cases h
theorem eqv_nbAll : ∀ ds es : List PyData, nbAll ds = true → nbAll es = true → (PyData.eqvAll ds es = true ↔ ds = es)
  | [], [], _, _ => by simp [PyData.eqvAll]
  | [], _ :: _, _, _ => by simp [PyData.eqvAll]
  | _ :: _, [], _, _ => by simp [PyData.eqvAll]
  | x :: xs, y :: ys, hd, he => by
    simp only [nbAll, Bool.and_eq_true] at hd he
    simp only [PyData.eqvAll, Bool.and_eq_true, eqv_nb x y hd.1 he.1, eqv_nbAll xs ys hd.2 he.2, List.cons.injEq]
end
theorem eqv_dec {d e : PyData} (hd : nb d = true) (he : nb e = true) : (PyData.eqv d e = true) = (d = e) := propext (eqv_nb d e hd he)
theorem eqv_self {d : PyData} (hd : nb d = true) : PyData.eqv d d = true := (eqv_nb d d hd hd).mpr rfl
theorem eqv_ne {d e : PyData} (hd : nb d = true) (he : nb e = true) (h : d ≠ e) : PyData.eqv d e = false := by
  cases q : PyData.eqv d e with
  | false => rfl
  | true => exact absurd ((eqv_nb d e hd he).mp q) h
theorem nbAll_of : ∀ {ds : List PyData}, (∀ d ∈ ds, nb d = true) → nbAll ds = true
  | [], _ => rfl
  | d :: ds, h => by
    show (nb d && nbAll ds) = true
    rw [h d (List.mem_cons_self ..), nbAll_of fun x hx => h x (List.mem_cons_of_mem _ hx)]
    rfl
theorem depthAll_le {n : Nat} : ∀ {ds : List PyData}, (∀ d ∈ ds, d.depth ≤ n) → PyData.depthAll ds ≤ n
  | [], _ => by simp [PyData.depthAll]
  | d :: ds, h => by
    simp only [PyData.depthAll]
    exact Nat.max_le.mpr ⟨h d (List.mem_cons_self ..), depthAll_le fun x hx => h x (List.mem_cons_of_mem _ hx)⟩
theorem shaped_of {d : PyData} (h : nb d = true) (hd : d.depth ≤ 64) : SeqAt.shaped d = true := by
  unfold SeqAt.shaped
  rw [lay_nb d h, decide_eq_true hd]
  rfl
/-- a list of texts as data -/
abbrev dStrs (l : List Str) : PyData := .list (l.map .str)
theorem dpall_strs {K : PySem.W.Frag} {H : Hp} : ∀ l : List Str, DpAll K H (l.map V.str) (l.map PyData.str)
  | [] => .nil
  | _ :: l => .cons (.str _) (dpall_strs l)
theorem nb_strs {l : List Str} (h : ∀ z ∈ l, Asc z) : nbAll (l.map PyData.str) = true := nbAll_of fun d hd => by
  obtain ⟨z, hz, rfl⟩ := List.mem_map.mp hd
  show PyData.strOk z = true
  exact (h z hz).ok
theorem depth_strs (l : List Str) : PyData.depthAll (l.map PyData.str) ≤ 0 := depthAll_le fun d hd => by
  obtain ⟨z, hz, rfl⟩ := List.mem_map.mp hd
  simp [PyData.depth]
/-! ### lists of texts -/
theorem inV_strs (n : Str) (ws : List Str) : inV (.str n) (ws.map V.str) = decide (n ∈ ws) := by
  unfold inV
  rw [Bool.eq_iff_iff, List.any_eq_true, decide_eq_true_iff]
  constructor
  · rintro ⟨y, hy, e⟩
    obtain ⟨z, hz, rfl⟩ := List.mem_map.mp hy
    have e : z = n := by simpa [eqV] using e
    exact e ▸ hz
  · intro h
    exact ⟨.str n, List.mem_map_of_mem h, by simp [eqV]⟩
theorem flat_strs (ws : List Str) : (ws.map V.str).all flatV = true := by
  rw [List.all_eq_true]
  intro y hy
  obtain ⟨z, hz, rfl⟩ := List.mem_map.mp hy
  rfl
theorem flat_ints (ws : List Int) : (ws.map V.int).all flatV = true := by
  rw [List.all_eq_true]
  intro y hy
  obtain ⟨z, hz, rfl⟩ := List.mem_map.mp hy
  rfl
/-- a list or a tuple -/
def Sq (K : PySem.W.Frag) (H : Hp) (a : Addr) (xs : List V) : Prop := SqL K H a xs ∨ SqT K H a xs
theorem Same.seqT {K : PySem.W.Frag} {H H' : Hp} {a : Addr} {xs : List V} (e : Same H H') (h : SqT K H a xs) : SqT K H' a xs := by
  rcases h with (h | ⟨o, h⟩) | h
  · exact .inl (.inl (e _ _ h))
  · exact .inl (.inr ⟨o, e _ _ h⟩)
  · exact .inr h
theorem Same.sq {K : PySem.W.Frag} {H H' : Hp} {a : Addr} {xs : List V} (e : Same H H') (h : Sq K H a xs) : Sq K H' a xs := h.elim (fun h => .inl (e.seq h)) (fun h => .inr (e.seqT h))
theorem map_get {α : Type} {f : α → V} {l : List α} {i : Nat} {x : V} (h : (l.map f)[i]? = some x) : ∃ z, l[i]? = some z ∧ x = f z := by
  rw [List.getElem?_map] at h
  cases e : l[i]? with
  | none => rw [e] at h; cases h
  | some z => rw [e] at h; exact ⟨z, rfl, (Option.some.inj h).symm⟩
theorem take_more {α : Type} {l : List α} {i : Nat} {x : α} (h : l[i]? = some x) : l.take (i + 1) = l.take i ++ [x] := by
  rw [List.take_add_one, h]
  rfl
theorem get_mem {α : Type} {l : List α} {i : Nat} {x : α} (h : l[i]? = some x) : x ∈ l := List.mem_of_getElem? h
theorem cutV_take (xs : List V) (n : Nat) : cutV xs none (some (n : Int)) = xs.take n := by
  unfold cutV
  rw [HT.sIx_none, HT.sIx_nat]
  show List.take (min n xs.length - 0) (List.drop 0 xs) = _
  rw [List.drop_zero, Nat.sub_zero, Nat.min_comm]
  by_cases h : n ≤ xs.length
  · rw [Nat.min_eq_right h]
  · rw [Nat.min_eq_left (by omega), List.take_length, List.take_of_length_le (by omega)]
theorem cutV_drop (xs : List V) (n : Nat) : cutV xs (some (n : Int)) none = xs.drop n := by
  unfold cutV
  rw [HT.sIx_none, HT.sIx_nat]
  by_cases h : n ≤ xs.length
  · rw [Nat.min_eq_left h]
    exact List.take_of_length_le (by rw [List.length_drop]; exact Nat.le_refl _)
  · rw [Nat.min_eq_right (by omega), List.drop_length, List.drop_of_length_le (by omega), List.take_nil]
/-! ### data stay as they are -/
section
variable {K : PySem.W.Frag} {H H' : Hp}
mutual
theorem Dp.keep (e : Same H H') : ∀ (d : PyData) (v : V), Dp K H v d → Dp K H' v d
  | .none, _, h => by cases h; exact .non
  | .bool _, _, h => by cases h; exact .bl _
  | .int _, _, h => by cases h; exact .int _
  | .str _, _, h => by cases h; exact .str _
  | .list ds, _, h => by
    cases h with
    | lst hs ha => exact .lst (e.seq hs) (DpAll.keep e ds _ ha)
  | .tuple ds, _, h => by
    cases h with
    | tup hs ha => exact .tup (e.seqT hs) (DpAll.keep e ds _ ha)
  | .dict _, _, h => by cases h
theorem DpAll.keep (e : Same H H') : ∀ (ds : List PyData) (vs : List V), DpAll K H vs ds → DpAll K H' vs ds
  | [], _, h => by cases h; exact .nil
  | d :: ds, _, h => by
    cases h with
    | cons h1 h2 => exact .cons (Dp.keep e d _ h1) (DpAll.keep e ds _ h2)
end
end
/-! ### words -/
/-! what a word is, by its code points -/
def LETTERS : Str := "abcdefghijklmnopqrstuvwxyz"
def DIGITS : Str := "0123456789"
def okc (c : Nat) : Bool := decide (c ∈ LETTERS.cps.toList) || decide (c ∈ DIGITS.cps.toList)
def wd (l : List Nat) : Bool := decide (1 ≤ l.length ∧ l.length ≤ 12) && (decide (l.headD 0 ∈ LETTERS.cps.toList) && l.all okc)
theorem len_cps (z : Str) : z.length = z.cps.toList.length := rfl
theorem all_take {α : Type} {p : α → Bool} {l : List α} {i : Nat} {c : α} (h : l[i]? = some c) : (l.take (i + 1)).map p = (l.take i).map p ++ [p c] := by
  rw [List.take_add_one, h, List.map_append]
  rfl
theorem all_id {α : Type} (p : α → Bool) (l : List α) : (l.map p).all id = l.all p := by
  rw [List.all_map]
  rfl
theorem get_lt {l : List Nat} {n : Int} (h0 : 0 ≤ n) (h1 : n < l.length) (h2 : l.all (fun c => decide (c < 128)) = true) : ∃ c, atI l n = some c ∧ c < 128 := by
  obtain ⟨j, rfl⟩ : ∃ j : Nat, n = j := ⟨n.toNat, by omega⟩
  have hj : j < l.length := by omega
  refine ⟨l[j], atI_nat (List.getElem?_eq_getElem hj), ?_⟩
  rw [List.all_eq_true] at h2
  exact of_decide_eq_true (h2 _ (List.getElem_mem hj))
theorem wd_cons {c : Nat} {r : List Nat} (hc : c ∈ LETTERS.cps.toList) (hr : ∀ d ∈ r, okc d = true) (hl : r.length ≤ 11) : wd (c :: r) = true := by
  unfold wd
  rw [decide_eq_true (show 1 ≤ (c :: r).length ∧ (c :: r).length ≤ 12 by rw [List.length_cons]; omega), Bool.true_and, List.headD_cons, decide_eq_true hc, Bool.true_and, List.all_cons, Bool.and_eq_true]
  refine ⟨?_, List.all_eq_true.mpr hr⟩
  unfold okc
  rw [decide_eq_true hc, Bool.true_or]
theorem wd_inv {l : List Nat} (h : wd l = true) : ∃ c r, l = c :: r ∧ c ∈ LETTERS.cps.toList ∧ (∀ d ∈ l, okc d = true) ∧ l.length ≤ 12 := by
  unfold wd at h
  rw [Bool.and_eq_true, Bool.and_eq_true] at h
  obtain ⟨h1, h2, h3⟩ := h
  have h1 := of_decide_eq_true h1
  have h2 := of_decide_eq_true h2
  cases l with
  | nil => exact absurd h1.1 (by decide)
  | cons c r => exact ⟨c, r, rfl, h2, List.all_eq_true.mp h3, h1.2⟩
theorem okc_lt {c : Nat} (h : okc c = true) : c < 128 := by
  unfold okc at h
  rw [Bool.or_eq_true, decide_eq_true_iff, decide_eq_true_iff] at h
  rcases h with h | h
  · exact of_decide_eq_true (List.all_eq_true.mp (show LETTERS.cps.toList.all (fun c => decide (c < 128)) = true by decide) c h)
  · exact of_decide_eq_true (List.all_eq_true.mp (show DIGITS.cps.toList.all (fun c => decide (c < 128)) = true by decide) c h)
/-- a text that is a word -/
def Wd (z : Str) : Prop := wd z.cps.toList = true
theorem Wd.asc {z : Str} (h : Wd z) : Asc z := fun c hc => by
  obtain ⟨_, _, _, _, ho, _⟩ := wd_inv h
  exact okc_lt (ho c hc)
theorem Wd.len {z : Str} (h : Wd z) : z.length ≤ 12 := by
  obtain ⟨_, _, _, _, _, hl⟩ := wd_inv h
  exact hl
/-! ### thirty spare words -/
def spare (z : Str) (k : Nat) : Str := cutS z none (some 9) ++ "x" ++ (toString (k : Int) : Str)
theorem cut_take (z : Str) (n : Nat) : (cutS z none (some (n : Int))).cps.toList = z.cps.toList.take n := by
  unfold cutS
  rw [HT.sIx_none, HT.sIx_nat]
  show (List.take (min n z.length - 0) (List.drop 0 z.cps.toList)).toArray.toList = _
  rw [List.drop_zero, Nat.sub_zero]
  show List.take (min n z.length) z.cps.toList = _
  rw [len_cps, Nat.min_comm]
  by_cases h : n ≤ z.cps.toList.length
  · rw [Nat.min_eq_right h]
  · rw [Nat.min_eq_left (by omega), List.take_length, List.take_of_length_le (by omega)]
theorem spare_cps (z : Str) (k : Nat) : (spare z k).cps.toList = z.cps.toList.take 9 ++ ([120] ++ (toString (k : Int) : Str).cps.toList) := by
  unfold spare
  rw [Str.cps_append, Array.toList_append, Str.cps_append, Array.toList_append, show (9 : Int) = ((9 : Nat) : Int) from rfl, cut_take, List.append_assoc]
  rfl
theorem digs30 : (List.range 30).all (fun k => decide ((toString (k : Int) : Str).cps.toList.length ≤ 2) && (toString (k : Int) : Str).cps.toList.all fun c => decide (c ∈ DIGITS.cps.toList)) = true := by decide +kernel
theorem digs_inj : (List.range 30).all (fun k => (List.range 30).all fun j => decide ((toString (k : Int) : Str).cps.toList = (toString (j : Int) : Str).cps.toList → k = j)) = true := by decide +kernel
theorem spare_wd {z : Str} (h : Wd z) {k : Nat} (hk : k < 30) : Wd (spare z k) := by
  obtain ⟨c, r, e, hc, ho, hl⟩ := wd_inv h
  have hd := List.all_eq_true.mp digs30 k (List.mem_range.mpr hk)
  rw [Bool.and_eq_true, decide_eq_true_iff, List.all_eq_true] at hd
  show wd (spare z k).cps.toList = true
  rw [spare_cps, e, List.take_succ_cons, List.cons_append]
  refine wd_cons hc (fun d hd' => ?_) ?_
  · rcases List.mem_append.mp hd' with h1 | h1
    · exact ho d (by rw [e]; exact List.mem_cons_of_mem _ (List.mem_of_mem_take h1))
    · rcases List.mem_append.mp h1 with h2 | h2
      · rw [List.mem_singleton.mp h2]
        decide
      · have := of_decide_eq_true (hd.2 d h2)
        unfold okc
        rw [decide_eq_true this, Bool.or_true]
  · rw [List.length_append, List.length_take, List.length_append]
    have := hd.1
    show min 8 r.length + (1 + _) ≤ 11
    omega
theorem str_ext {x y : Str} (h : x.cps.toList = y.cps.toList) : x = y := by
  obtain ⟨⟨a⟩⟩ := x
  obtain ⟨⟨b⟩⟩ := y
  have : a = b := h
  rw [this]
theorem spare_inj {z : Str} {k j : Nat} (hk : k < 30) (hj : j < 30) (h : spare z k = spare z j) : k = j := by
  have e : (spare z k).cps.toList = (spare z j).cps.toList := by rw [h]
  rw [spare_cps, spare_cps] at e
  have e2 := List.append_cancel_left (List.append_cancel_left e)
  have d := List.all_eq_true.mp (List.all_eq_true.mp digs_inj k (List.mem_range.mpr hk)) j (List.mem_range.mpr hj)
  exact of_decide_eq_true d e2
theorem nodup_sub {α : Type} [DecidableEq α] : ∀ {l m : List α}, l.Nodup → (∀ x ∈ l, x ∈ m) → l.length ≤ m.length
  | [], _, _, _ => Nat.zero_le _
  | a :: l, m, hn, hs => by
    obtain ⟨ha, hn⟩ := List.nodup_cons.mp hn
    have h1 : a ∈ m := hs a (List.mem_cons_self ..)
    have h2 : l.length ≤ (m.erase a).length := nodup_sub hn fun x hx => by
      have ne : x ≠ a := fun e => ha (e ▸ hx)
      exact (List.mem_erase_of_ne ne).mpr (hs x (List.mem_cons_of_mem _ hx))
    rw [List.length_erase_of_mem h1] at h2
    have : 0 < m.length := List.length_pos_of_mem h1
    rw [List.length_cons]
    omega
def spares (z : Str) : List Str := (List.range 30).map (spare z)
theorem spares_nodup (z : Str) : (spares z).Nodup := by
  unfold spares
  rw [List.nodup_iff_pairwise_ne, List.pairwise_map]
  refine List.Pairwise.imp_of_mem (R := fun a b => a ≠ b) (fun {a b} ha hb hab e => hab ?_) List.nodup_range
  exact spare_inj (List.mem_range.mp ha) (List.mem_range.mp hb) e
theorem spare_some {z : Str} {ws : List Str} (h : ws.length < 30) : ∃ y r, (spares z).filter (fun o => decide (o ∉ ws)) = y :: r := by
  cases e : (spares z).filter (fun o => decide (o ∉ ws)) with
  | cons y r => exact ⟨y, r, rfl⟩
  | nil =>
    have h1 := List.filter_eq_nil_iff.mp e
    have h2 : (spares z).length ≤ ws.length := nodup_sub (spares_nodup z) fun x hx => by
      have := h1 x hx
      simpa using this
    unfold spares at h2
    rw [List.length_map, List.length_range] at h2
    omega
theorem spares_wd {z y : Str} (h : Wd z) (hy : y ∈ spares z) : Wd y := by
  obtain ⟨k, hk, rfl⟩ := List.mem_map.mp hy
  exact spare_wd h (List.mem_range.mp hk)
/-! ### from the written part to the facts above -/
section
variable {P : Program} {K : PySem.W.Frag} {h : Heap} {mg : Str → Option Value}
theorem src_mk {x : Str} {st : Stmt} {ps : List Str} {f : Addr} {oc : Value} {od an : Option Addr} {osl : Array (Option Value)} {kV doc pm cdv ct : Value} (X : K.In h) (G : h.Ns mainGlobals mg)
    (a : PySem.W.nsIn K mainGlobals x = some (some (.ref f))) (l : K.lookup f = some ⟨oc, od, .func (PySem.W.fnOf x x (defArgs st) (defBody st) (defScope st) .none kV doc pm an cdv ct), osl⟩)
    (c : PySem.W.codeIn K cdv x = true) (k : PySem.W.keepIn K (.ref f) = true)
    (hb : ∀ (kV doc pm : Value) (an : Option Addr) (cdv ct : Value) (us : List Value), us.length = ps.length → bindArgs (PySem.W.fnOf x x (defArgs st) (defBody st) (defScope st) .none kV doc pm an cdv ct) ⟨us, []⟩ = pure (ps.zip us)) : Src K mg x st ps :=
  ⟨f, _, fun_mk l c k, PySem.W.mg_of X G a, (fun_mk (st := st) l c k).binds hb⟩
theorem glo_str {x z : Str} {t : Tok} (X : K.In h) (G : h.Ns mainGlobals mg) (a : PySem.W.nsIn K mainGlobals x = some (some (.str z t))) : Glo mg x (.str z) := ⟨_, PySem.W.mg_of X G a, t, rfl⟩
theorem glo_int {x : Str} {i : Int} {t : Tok} (X : K.In h) (G : h.Ns mainGlobals mg) (a : PySem.W.nsIn K mainGlobals x = some (some (.int i t))) : Glo mg x (.int i) := ⟨_, PySem.W.mg_of X G a, t, rfl⟩
theorem glo_ref {x : Str} {a : Addr} (X : K.In h) (G : h.Ns mainGlobals mg) (e : PySem.W.nsIn K mainGlobals x = some (some (.ref a))) : Glo mg x (.ref a) := ⟨_, PySem.W.mg_of X G e, rfl⟩
theorem err_mk {cn qual : Str} {tm : Bool} {C fI : Addr} {fs : List Str} {st : Stmt} {nm q : Str} {N : Addr} {bs bm : List Value} {sn : List Str} {sub : List Value} {ab : Bool} {col : Option Bool} {dd : Option Addr} {m0 m1 m2 m3 m5 : Option Value}
    {oc : Value} {od an : Option Addr} {osl : Array (Option Value)} {kV doc pm ct : Value} {cda cc : Addr} {ccl cl : Value} {cdd cld : Option Addr} {ccs csl : Array (Option Value)} {vs : Array Value} {file : Str} {tf : Tok} {msg : Expr} {p1 p2 p3 p4 p5 : Pos} {fp : List FP} {ar : Arg}
    (X : K.In h) (G : h.Ns mainGlobals mg) (aC : PySem.W.nsIn K mainGlobals cn = some (some (.ref C))) (aS : PySem.W.nsIn K mainGlobals "super" = some none)
    (xL : K.lookup C = some (excClassObj nm q C N bs bm true sn sub ab col dd m0 m1 m2 m3 m5 "ValueError.__new__")) (hbm : PySem.HandSPX.refsVE bm = true)
    (sa : PySem.W.findIn K (.ref C) "__setattr__" = some (some (.builtin "object.__setattr__"))) (ga : PySem.W.findIn K (.ref C) "__getattribute__" = some (some (.builtin "BaseException.__getattribute__"))) (gg : PySem.W.findIn K (.ref C) "__getattr__" = some none)
    (noN : ∀ f ∈ fs, PySem.W.findIn K (.ref C) f = some none)
    (iC : PySem.W.findIn K (.ref C) "__init__" = some (some (.ref fI))) (tI : PySem.W.typeIn K (.ref fI) = some (.type "function")) (kC : PySem.W.keepIn K (.ref C) = true)
    (exC : PySem.W.subIn K (.ref C) (.type "BaseException") = some true) (veC : PySem.W.subIn K (.ref C) (.type "ValueError") = some true) (tyC : PySem.W.typeIn K (.ref C) = some (.type "type")) (hdC : PySem.W.hasDictIn K C = true)
    (sup : PySem.W.ks_superIn K C C "__init__" = some (some (.builtin "ValueError.__init__"))) (mro : PySem.W.mroIn K C (.ref C) = some true) (su : PySem.W.subIn K (.ref C) (.ref C) = some true)
    (ca : PySem.W.findIn K (.ref C) "__class__" = some (some (.builtin "object.__class__"))) (cg : PySem.W.specialIn K (.builtin "object.__class__") "__get__" = some (some (.builtin "getset_descriptor.__get__"))) (ct' : PySem.W.takesIn K (.builtin "object.__class__") = some true)
    (mo : PySem.W.mroIn K C (.type "object") = some true) (opq : PySem.W.nsIn K cStatics "thirdparty.any" = some none)
    (top : (P.main.scope.names.lookup ("super" : Str)).isSome = false)
    (l : K.lookup fI = some ⟨oc, od, .func (PySem.W.ksFn "__init__" qual (defArgs st) (defBody st) (defScope st) .none kV doc pm an (.ref cda) ct cc), osl⟩) (c : PySem.W.codeIn K (.ref cda) qual = true)
    (lc : K.lookup cda = some ⟨ccl, cdd, .fields vs, ccs⟩) (hv2 : vs[2]? = some (.str file tf)) (hfile : ((P.main.file : Str) == file) = true) (lcc : K.lookup cc = some ⟨cl, cld, .cell (some (.ref C)), csl⟩)
    (hbody : defBody st = stS msg p1 p2 p3 p4 p5 :: fp.map stF) (har : ((defArgs st).posonlyargs ++ (defArgs st).args).head? = some ar) (hself : ar.arg = "self") (hfp : fp.map (·.1) = fs) (hpos : (p3.endLine == p4.line) = true)
    (h1 : (defScope st).names.lookup ("super" : Str) = some .globalImplicit) (h2 : (defScope st).names.lookup ("__class__" : Str) = some .free) (h3 : (defScope st).names.lookup ("self" : Str) = some .local) (h4 : ∀ f ∈ fs, (defScope st).names.lookup f = some .local) (h5 : ∀ f ∈ fs, (f == ("__debug__" : Str)) = false) (h6 : ∀ y ∈ (defScope st).names, y.2 ≠ .cell)
    (h7 : (defScope st).kind = .function) (h8 : (defScope st).isGenerator = false) (h9 : (defScope st).isCoroutine = false)
    (hbind : ∀ (kV doc pm : Value) (an : Option Addr) (cda : Addr) (ct : Value) (cc : Addr) (s : Shared) (x : Value) (us : List Value), us.length = fs.length → BindsTo s (PySem.W.ksFn "__init__" qual (defArgs st) (defBody st) (defScope st) .none kV doc pm an (.ref cda) ct cc) ⟨x :: us, []⟩ (("self", x) :: fs.zip us))
    (hlook : ∀ (x : Value) (us : List Value), us.length = fs.length → ((("self" : Str), x) :: fs.zip us).reverse.lookup ("self" : Str) = some x ∧ Paired (fun f u => ((("self" : Str), x) :: fs.zip us).reverse.lookup f = some u) fs us)
    (hmsg : (tm = false ∧ ∃ (z : Str) (i : Nat) (p : Pos), msg = .Constant (.str z) i p) ∨ tm = true ∧ ∃ (z f : Str) (i : Nat) (p p' p'' : Pos), msg = .BinOp (.Constant (.str z) i p) .Add (.Name f p') p'' ∧ z.length ≤ 100 ∧ fs.head? = some f) :
    ErrTxt P K mg tm cn C fI fs where
  cls := ⟨nm, q, N, bs, bm, sn, sub, ab, col, dd, m0, m1, m2, m3, m5, xL, hbm⟩
  sa := sa
  noN := noN
  gC := PySem.W.mg_of X G aC
  ga := ga
  gg := gg
  iC := iC
  tC := tI
  kC := kC
  exC := exC
  veC := veC
  tyC := tyC
  hdC := hdC
  sup := sup
  mro := mro
  sub := su
  ca := ca
  cg := cg
  ct := ct'
  mo := mo
  opq := opq
  msup := PySem.W.mg_none_of X G aS
  top := top
  fn := by
    rw [hbody] at l
    refine ⟨oc, od, qual, defArgs st, defScope st, msg, p1, p2, p3, p4, p5, fp, .none, kV, doc, pm, an, cda, cc, ct, osl, ar, ccl, cl, cdd, cld, ccs, csl, vs, file, tf, l, c, har, hself, lc, hv2, hfile, lcc, hfp, hpos, ⟨h1, h2, h3, h4, h5, h6⟩, ⟨h7, h8, h9⟩, ?_, hlook, hmsg⟩
    intro s x us hl
    have := hbind kV doc pm an cda ct cc s x us hl
    rw [hbody] at this
    exact this
end
end L2

set_option Elab.async false
set_option linter.all false
set_option maxRecDepth 100000
set_option maxHeartbeats 4000000

namespace Held
open PySem PySem.Spec PyProof.Rows L2 PySem.HErr

def topS (i : Nat) : Stmt := PySem.Challenge.pw_heldsteps_k02_numbers_and_names_checked.main.body.getD i (.Pass ⟨0, 0, 0, 0⟩)
/-! ## box -/
section
variable {P : Program} {w : World} {K : PySem.W.Frag} {mg : Str → Option Value} {base : Heap}
abbrev s__law_next : Stmt := topS 10
theorem sc__law_next : FnScope ["_law_box_here", "_law_many", "_law_cell", "_law_value", "_law_mixed"] ["_law_box_here", "_law_many"] (defScope s__law_next) := ⟨rfl, rfl, rfl, by decide +kernel, rfl, by decide +kernel, by decide +kernel⟩
theorem fmod_box {x m : Int} (h : 0 < m) : 0 ≤ x.fmod m ∧ x.fmod m < m := ⟨Int.fmod_nonneg_of_pos _ h, Int.fmod_lt_of_pos _ h⟩
theorem big200 {m : Int} (h0 : 0 < m) (h : m ≤ 10 ^ 40) : m.natAbs < 2 ^ 200 := by
  have e : (10 : Int) ^ 40 < 2 ^ 200 := by decide
  have e2 : ((2 ^ 200 : Nat) : Int) = 2 ^ 200 := by decide
  omega
theorem ok_next {k : Nat} (B : Bl mg) (F : Src K mg "_law_next" s__law_next ["_law_box_here", "_law_many"]) : Def P w K mg base CX0 (k + 1) "_law_next" ["_law_box_here", "_law_many"] spNext := by
  refine F.ok sc__law_next (fun vs H Q E h => ?_) (fun f cdv A outer s H vs Q E hr h => ?_)
  · obtain ⟨b, l, many, rfl, _⟩ := h
    rfl
  · obtain ⟨b, l, many, rfl, hm, hm2, hbox, q⟩ := h
    obtain ⟨ns, i, c, r, hb, hl, hi, hlb⟩ := hbox.ex
    refine ⟨_, (C8.pss_cut (ps_if (PW.pt (pw_and (pt_cmpR op_eq (pe_ix (kix_list (K := K)) (pv 0) pe_int (fun _ _ => rfl)) pe_int (nomark _)) (pw_and1 (pt_cmpR op_lt (pe_ix (kix_list (K := K)) (pv 0) pe_int (fun _ _ => rfl)) (pe_callB (kcall_len (K := K)) (by rfl) B.len PySem.boot_len (pa_cons (pe_ix (kix_list (K := K)) (pv 0) pe_int (fun _ _ => rfl)) pa_nil)) (nomark _))))) (pss_cons (ps_asg (pe_ix (kix_list (K := K)) (pe_ix (kix_list (K := K)) (pv 0) pe_int (fun _ _ => rfl)) (pe_ix (kix_list (K := K)) (pv 0) pe_int (fun _ _ => rfl)) (fun _ _ => rfl)) (pg_name (i := 2) sc__law_next.nd rfl (Or.inl rfl)))
 (pss_cons (ps_asg (pe_op op_add (pe_ix (kix_list (K := K)) (pv 0) pe_int (fun _ _ => rfl)) pe_int) (pg_sub (pv 0) pe_int set_list))
 (pss_one (ps_if (pt_cmpR op_ge (pv 2) (pe_op op_pow pe_int pe_int) (nomark _)) (pss_one (ps_asg (pv 2) (pg_sub (pv 0) pe_int set_list))) (pss_one (ps_asg (pe_op op_modN (pe_callTy call_int1 (by rfl) B.int' (by decide +kernel) (pa_cons (pe_op op_add (pe_op op_add (pe_op op_mul (pe_ix (kix_list (K := K)) (pv 0) pe_int (fun _ _ => rfl)) pe_int) (pe_op op_mul (pv 2) pe_int)) (pe_ix (kix_list (K := K)) (pv 0) pe_int (fun _ _ => rfl))) pa_nil)) pe_int) (pg_sub (pv 0) pe_int set_list))))))) pss_nil)
 (pss_cons (ps_if (pt_cmpR op_gt (pe_ix (kix_list (K := K)) (pv 0) pe_int (fun _ _ => rfl)) pe_int (nomark _)) (pss_cons (ps_asg (pe_op op_modN (pe_callTy call_int1 (by rfl) B.int' (by decide +kernel) (pa_cons (pe_ix (kix_list (K := K)) (pv 0) pe_int (fun _ _ => rfl)) pa_nil)) (pv 1)) (pg_name (i := 3) sc__law_next.nd rfl (Or.inl rfl)))
 (pss_cons (ps_asg (pe_op op_fdivW (pe_ix (kix_list (K := K)) (pv 0) pe_int (fun _ _ => rfl)) (pv 1)) (pg_sub (pv 0) pe_int set_list))
 (pss_one (ps_ret (pv 3))))) pss_nil)
 (pss_cons (ps_asg (pe_op op_modN (pe_callTy call_int1 (by rfl) B.int' (by decide +kernel) (pa_cons (pe_op op_add (pe_op op_mul (pe_ix (kix_list (K := K)) (pv 0) pe_int (fun _ _ => rfl)) pe_int) pe_int) pa_nil)) pe_int) (pg_sub (pv 0) pe_int set_list))
 (pss_cons (ps_asg (pe_op op_modN (pe_callTy call_int1 (by rfl) B.int' (by decide +kernel) (pa_cons (pe_op op_add (pe_op op_add (pe_op op_mul (pe_ix (kix_list (K := K)) (pv 0) pe_int (fun _ _ => rfl)) pe_int) (pe_op op_mul (pe_ix (kix_list (K := K)) (pv 0) pe_int (fun _ _ => rfl)) pe_int)) pe_int) pa_nil)) pe_int) (pg_name (i := 4) sc__law_next.nd rfl (Or.inl rfl)))
 (pss_one (ps_ret (pe_op op_modN (pe_op op_fdivN (pv 4) pe_int) (pv 1)))))))), ?_⟩
    have hz : ∀ o : HO, (upd H b o) l = some (.lst (ns.map V.int)) := fun o => by rw [upd_ne hlb]; exact hl
    refine ⟨fun σ' H' => ∃ (i2 c2 r2 : Int) (y2 : Option V), 0 ≤ i2 ∧ H' = upd H b (.lst [.int i2, .int c2, .int r2, .ref l]) ∧ σ' = [some (.ref b), some (.int many), y2, none, none], ?_, ?_⟩
    · have hH : H = upd H b (.lst [.int i, .int c, .int r, .ref l]) := by
        funext a
        by_cases ha : a = b
        · rw [ha, upd_same, hb]
        · rw [upd_ne ha]
      refine ⟨_, rfl, b, _, _, _, rfl, rfl, SqL.of hb, rfl, rfl, _, rfl, ?_⟩
      refine ite2 (fun h1 => ?_) (fun h1 => ?_)
      · refine ⟨_, rfl, b, _, _, _, rfl, rfl, SqL.of hb, rfl, _, rfl, b, _, _, _, rfl, rfl, SqL.of hb, rfl, l, _, rfl, .inl (SqL.of hl), _, _, rfl, rfl, _, rfl, ?_⟩
        refine ite2 (fun h2 => ?_) (fun h2 => ?_)
        · have h2 : i < (ns.map V.int).length := of_decide_eq_true h2
          rw [List.length_map] at h2
          obtain ⟨j, rfl⟩ : ∃ j : Nat, i = j := ⟨i.toNat, by omega⟩
          have hj : j < ns.length := by omega
          have g : (ns.map V.int)[j]? = some (.int ns[j]) := by
            rw [List.getElem?_map, List.getElem?_eq_getElem hj]
            rfl
          refine ⟨_, rfl, b, _, _, _, rfl, rfl, SqL.of hb, rfl, _, rfl, b, _, _, _, rfl, rfl, SqL.of hb, rfl, l, _, _, _, rfl, rfl, SqL.of hl, atI_nat g, ?_⟩
          refine ⟨_, rfl, b, _, _, _, rfl, rfl, SqL.of hb, rfl, _, _, rfl, rfl, _, rfl, b, _, _, _, rfl, rfl, hb, rfl, ?_⟩
          refine ⟨_, rfl, _, _, rfl, rfl, ⟨by decide, by decide, by decide⟩, _, _, rfl, rfl, _, rfl, ?_⟩
          refine ite2 (fun h3 => ?_) (fun h3 => ?_)
          · refine ⟨_, rfl, _, rfl, b, _, _, _, rfl, rfl, upd_same, rfl, ?_⟩
            exact ⟨(j : Int) + 1, _, _, _, by omega, upd_twice, rfl⟩
          · have hu : (upd H b (.lst ([V.int (j : Int), V.int c, V.int r, V.ref l].set (Int.toNat 0) (V.int ((j : Int) + 1))))) b = some (.lst [.int ((j : Int) + 1), .int c, .int r, .ref l]) := upd_same
            refine ⟨_, rfl, b, _, _, _, rfl, rfl, SqL.of hu, rfl, _, _, rfl, rfl, .inr ⟨by decide, by decide⟩, _, rfl, _, _, rfl, rfl, .inr ⟨by decide, by decide⟩, _, _, rfl, rfl, _, rfl, b, _, _, _, rfl, rfl, SqL.of hu, rfl, _, _, rfl, rfl, .inl ⟨_, rfl, _, _, rfl, rfl, (show (2147483647 : Int) ≠ 0 by decide), ?_⟩⟩
            refine ⟨_, rfl, b, _, _, _, rfl, rfl, hu, rfl, ?_⟩
            exact ⟨(j : Int) + 1, _, _, _, by omega, upd_twice, rfl⟩
        · exact ⟨i, c, r, none, hi, hH, rfl⟩
      · exact ⟨i, c, r, none, hi, hH, rfl⟩
    · rintro σ' H' ⟨i2, c2, r2, y2, hi2, rfl, rfl⟩
      have hu : (upd H b (.lst [.int i2, .int c2, .int r2, .ref l])) b = some (.lst [.int i2, .int c2, .int r2, .ref l]) := upd_same
      refine ⟨_, rfl, b, _, _, _, rfl, rfl, SqL.of hu, rfl, _, _, rfl, rfl, _, rfl, ?_⟩
      refine ite2 (fun h1 => ?_) (fun h1 => ?_)
      · refine ⟨_, rfl, b, _, _, _, rfl, rfl, SqL.of hu, rfl, .inl ⟨_, rfl, _, rfl, _, _, rfl, rfl, by omega, ?_⟩⟩
        refine ⟨_, rfl, b, _, _, _, rfl, rfl, SqL.of hu, rfl, _, rfl, _, _, rfl, rfl, wide_div (b := 200) hm (big200 hm hm2) (by decide) (by decide), ?_⟩
        refine ⟨_, rfl, b, _, _, _, rfl, rfl, hu, rfl, ?_⟩
        refine ⟨_, rfl, ?_⟩
        rw [upd_twice]
        have f := fmod_box (x := c2) hm
        exact q _ _ f.1 f.2 ⟨(SameB.refl b H).upd, hbox, ns, i2, _, r2, upd_same, hz _, hi2, hlb⟩
      · refine ⟨_, rfl, b, _, _, _, rfl, rfl, SqL.of hu, rfl, _, _, rfl, rfl, .inr ⟨by decide, by decide⟩, _, _, rfl, rfl, .inl ⟨_, rfl, _, _, rfl, rfl, (show (2147483647 : Int) ≠ 0 by decide), ?_⟩⟩
        refine ⟨_, rfl, b, _, _, _, rfl, rfl, hu, rfl, ?_⟩
        rw [upd_twice]
        have hu2 : (upd H b (.lst ([V.int i2, V.int c2, V.int r2, V.ref l].set (Int.toNat 2) (V.int ((r2 * 48271 + 11).fmod 2147483647))))) b = some (.lst [.int i2, .int c2, .int ((r2 * 48271 + 11).fmod 2147483647), .ref l]) := upd_same
        refine ⟨_, rfl, b, _, _, _, rfl, rfl, SqL.of hu2, rfl, _, _, rfl, rfl, .inr ⟨by decide, by decide⟩, _, rfl, b, _, _, _, rfl, rfl, SqL.of hu2, rfl, _, _, rfl, rfl, .inr ⟨by decide, by decide⟩, _, _, rfl, rfl, _, _, rfl, rfl, .inl ⟨_, rfl, _, _, rfl, rfl, (show (2147483629 : Int) ≠ 0 by decide), ?_⟩⟩
        refine ⟨_, rfl, _, _, rfl, rfl, ⟨by decide, by decide⟩, _, rfl, _, _, rfl, rfl, by omega, ?_⟩
        exact q _ _ (fmod_box hm).1 (fmod_box hm).2 ⟨(SameB.refl b H).upd, hbox, ns, i2, _, _, upd_same, hz _, hi2, hlb⟩
abbrev s__law_box : Stmt := topS 9
theorem sc__law_box : FnScope ["_law_script", "_law_cell"] ["_law_script"] (defScope s__law_box) := ⟨rfl, rfl, rfl, by decide +kernel, rfl, by decide +kernel, by decide +kernel⟩
theorem ok_box {k : Nat} (B : Bl mg) (F : Src K mg "_law_box" s__law_box ["_law_script"]) : Def P w K mg base CX0 (k + 1) "_law_box" ["_law_script"] (spBox K) := by
  refine F.ok sc__law_box (fun vs H Q E h => ?_) (fun f cdv A outer s H vs Q E hr h => ?_)
  · obtain ⟨a, ns, rfl, _⟩ := h
    rfl
  · obtain ⟨a, ns, rfl, hS, hlen, q⟩ := h
    refine ⟨_, (pss_one (ps_ret (pe_lst (pa_cons pe_int (pa_cons pe_int (pa_cons pe_int (pa_cons (pe_lc (own := [("_law_cell", 1)]) (g := gName 1) (by rfl) sc__law_box.nd (kpi_list (K := K) (pv 0)) (blkOk_by (N := ["_law_script", "_law_cell"]) (sc := defScope s__law_box) (by decide +kernel)) (fun _ _ _ _ _ => (pg_name (i := 1) sc__law_box.nd rfl (Or.inl rfl))) (fun _ _ _ _ _ => pts_nil) (fun _ _ _ _ _ => (pe_callTy call_int1 (by rfl) B.int' (by decide +kernel) (pa_cons (pv 1) pa_nil)))) pa_nil))))))), ?_⟩
    refine ⟨_, rfl, a, rfl, ⟨_, hS⟩, fun D nD => lc_list (K := K) (a := a) (xs := ns.map V.int) (fun i H' => Same H H' ∧ H' D = some (.lst ((ns.take i).map V.int))) ⟨same_upd nD, upd_same⟩ (fun i H' _ h' => h'.1.seq hS) ?_ ?_⟩
    · rintro i x H' hi ⟨sm, hD⟩
      obtain ⟨z, hz, rfl⟩ : ∃ z, ns[i]? = some z ∧ V.int z = x := by
        rw [List.getElem?_map] at hi
        cases e : ns[i]? with
        | none => rw [e] at hi; cases hi
        | some z => rw [e] at hi; exact ⟨z, rfl, Option.some.inj hi⟩
      refine ⟨rfl, ?_⟩
      refine yes_if ?_
      refine ⟨_, rfl, .inl ⟨_, rfl, _, hD, ?_, ?_, ?_⟩⟩
      · rw [List.length_map, List.length_take]
        exact small1000 (by omega)
      · intro b o e
        rw [upd_ne (ne_of_none e nD)]
        exact sm b o e
      · rw [upd_same, List.take_add_one, hz, List.map_append]
        rfl
    · rintro H' ⟨sm, hD⟩
      rw [List.length_map, List.take_length] at hD
      refine ⟨by show 4 ≤ sizeLine; decide, fun p hp => ?_⟩
      have hpD : D ≠ p := ne_of_none hD hp
      exact q p D _ (sm.free hp) (sm.trans (same_upd hp)) ⟨ns, 0, 0, 7, upd_same, by rw [upd_ne hpD]; exact hD, by omega, hpD⟩
end

/-! ## names -/
section
variable {P : Program} {w : World} {K : PySem.W.Frag} {mg : Str → Option Value} {base : Heap}
abbrev s_check_number : Stmt := topS 6
theorem sc_check_number : FnScope ["number", "least", "most"] ["number", "least", "most"] (defScope s_check_number) := ⟨rfl, rfl, rfl, by decide +kernel, rfl, by decide +kernel, by decide +kernel⟩
def spCheckNumber (C : Addr) : Sp := fun vs H Q E => ∃ n lo hi : Int, vs = [.int n, .int lo, .int hi] ∧ (lo ≤ n ∧ n ≤ hi → Q (.int n) H) ∧ (¬ (lo ≤ n ∧ n ≤ hi) → Rais E H C [("number", .int n)])
theorem ok_check_number {k : Nat} {C_BadNumber f_BadNumber : Addr} (X_BadNumber : ErrTxt P K mg false "BadNumber" C_BadNumber f_BadNumber ["number"]) (F : Src K mg "check_number" s_check_number ["number", "least", "most"]) :
    Def P w K mg base (L2.CX P w) (k + 1) "check_number" ["number", "least", "most"] (spCheckNumber C_BadNumber) := by
  refine F.okX sc_check_number (fun vs H Q E h => ?_) (fun f cdv A outer s H vs Q E hr h => ?_)
  · obtain ⟨n, lo, hi, rfl, _⟩ := h
    rfl
  · obtain ⟨n, lo, hi, rfl, q1, q2⟩ := h
    refine ⟨_, (pss_cons (ps_if (PW.pt (pw_or (pt_cmpR op_lt (pv 0) (pv 1) (nomark _)) (pw_or1 (pt_cmpR op_gt (pv 0) (pv 2) (nomark _))))) (pss_one (ps_raiseE rfl X_BadNumber hr (takes_of rfl rfl rfl rfl) (pa_cons (pv 0) pa_nil))) pss_nil)
 (pss_one (ps_ret (pv 0)))), ?_⟩
    refine ⟨_, rfl, _, rfl, _, _, rfl, rfl, _, rfl, ?_⟩
    refine ite2 (fun h1 => ?_) (fun h1 => ?_)
    · have h1 : n < lo := of_decide_eq_true h1
      exact iteT ⟨_, rfl, rfl, (fun e => by cases e), fun d hd => (q2 (by omega)).go (Same.refl H) hd⟩
    · have h1 : ¬ n < lo := by simpa using h1
      refine ⟨_, rfl, _, rfl, _, _, rfl, rfl, _, rfl, ?_⟩
      refine ite2 (fun h2 => ?_) (fun h2 => ?_)
      · have h2 : hi < n := of_decide_eq_true h2
        exact ⟨_, rfl, rfl, (fun e => by cases e), fun d hd => (q2 (by omega)).go (Same.refl H) hd⟩
      · have h2 : ¬ hi < n := by simpa using h2
        exact ⟨_, rfl, q1 (by omega)⟩
/-- the first name at fault: true: not known; false: it occurred before -/
def chk (ks : List Str) : List Str → List Str → Option (Bool × Str)
  | _, [] => none
  | seen, n :: r => if n ∈ ks then (if n ∈ seen then some (false, n) else chk ks (seen ++ [n]) r) else some (true, n)
theorem chk_cons (ks seen : List Str) (n : Str) (r : List Str) : chk ks seen (n :: r) = if n ∈ ks then (if n ∈ seen then some (false, n) else chk ks (seen ++ [n]) r) else some (true, n) := rfl
abbrev s_check_names : Stmt := topS 7
theorem sc_check_names : FnScope ["names", "known", "seen", "name"] ["names", "known"] (defScope s_check_names) := ⟨rfl, rfl, rfl, by decide +kernel, rfl, by decide +kernel, by decide +kernel⟩
def spCheckNames (K : PySem.W.Frag) (CU CD : Addr) : Sp := fun vs H Q E => ∃ (a c : Addr) (ws ks : List Str), vs = [.ref a, .ref c] ∧ SqL K H a (ws.map V.str) ∧ Sq K H c (ks.map V.str) ∧ ws.length ≤ 1000 ∧
  (chk ks [] ws = none → ∀ (p : Addr) (H' : Hp), H p = none → Same H H' → H' p = some (.tup (ws.map V.str)) → Q (.ref p) H') ∧
  (∀ n, chk ks [] ws = some (true, n) → Rais E H CU [("name", .str n)]) ∧ (∀ n, chk ks [] ws = some (false, n) → Rais E H CD [("name", .str n)])
theorem ok_check_names {k : Nat} {C_UnknownName f_UnknownName C_DoubleName f_DoubleName : Addr} (B : Bl mg) (X_UnknownName : ErrTxt P K mg false "UnknownName" C_UnknownName f_UnknownName ["name"]) (X_DoubleName : ErrTxt P K mg false "DoubleName" C_DoubleName f_DoubleName ["name"])
    (F : Src K mg "check_names" s_check_names ["names", "known"]) : Def P w K mg base (L2.CX P w) (k + 1) "check_names" ["names", "known"] (spCheckNames K C_UnknownName C_DoubleName) := by
  refine F.okX sc_check_names (fun vs H Q E h => ?_) (fun f cdv A outer s H vs Q E hr h => ?_)
  · obtain ⟨a, c, ws, ks, rfl, _⟩ := h
    rfl
  · obtain ⟨a, c, ws, ks, rfl, ha, hc, hlen, q1, q2, q3⟩ := h
    refine ⟨_, (pss_cons (ps_asg (pe_lst pa_nil) (pg_name (i := 2) sc_check_names.nd rfl (Or.inl rfl)))
 (pss_cons (ps_for (passes_of rfl) rfl (kpi_list (K := K) (pv 0)) (pg_name (i := 3) sc_check_names.nd rfl (Or.inl rfl)) (pss_cons (ps_if (pt_cmpR (kop_notIn (K := K)) (pv 3) (pv 1) rfl) (pss_one (ps_raiseE rfl X_UnknownName hr (takes_of rfl rfl rfl rfl) (pa_cons (pv 3) pa_nil))) pss_nil)
 (pss_cons (ps_if (pt_cmpR (kop_in (K := K)) (pv 3) (pv 2) rfl) (pss_one (ps_raiseE rfl X_DoubleName hr (takes_of rfl rfl rfl rfl) (pa_cons (pv 3) pa_nil))) pss_nil)
 (pss_one (ps_expr (pe_bm PySem.F.plainAttrs_list PySem.F.slot_list_append PySem.F.type_list_append mt_append (pv 2) (pa_cons (pv 3) pa_nil)))))))
 (pss_one (ps_ret (pe_callTy (kcall_tuple (K := K)) (by rfl) B.tuple' (by decide +kernel) (pa_cons (pv 2) pa_nil)))))), ?_⟩
    refine ⟨Nat.zero_le _, fun D nD => ?_⟩
    have s1 : Same H (upd H D (.lst [])) := same_upd nD
    refine ⟨_, rfl, a, rfl, ⟨_, s1.seq ha⟩, for_list (K := K) (a := a) (xs := ws.map V.str) (fun i σ H' => ∃ y, σ = [some (.ref a), some (.ref c), some (.ref D), y] ∧ Same H H' ∧ H' D = some (.lst ((ws.take i).map V.str)) ∧ chk ks [] ws = chk ks (ws.take i) (ws.drop i))
      ⟨none, rfl, s1, upd_same, rfl⟩ (fun i σ H' _ h' => by obtain ⟨_, _, sm, _⟩ := h'; exact sm.seq ha) ?_ ?_⟩
    · rintro i x σ H' hi ⟨y, rfl, sm, hD, hk⟩
      obtain ⟨n, hn, rfl⟩ := map_get hi
      have hdr : ws.drop i = n :: ws.drop (i + 1) := List.drop_eq_getElem?_toList_append.trans (by rw [hn]; rfl)
      rw [hdr, chk_cons] at hk
      refine ⟨_, rfl, _, rfl, c, _, rfl, sm.sq hc, rfl, flat_strs _, _, rfl, ?_⟩
      rw [inV_strs]
      refine ite2 (fun h1 => ?_) (fun h1 => ?_)
      · have h1 : n ∉ ks := by simpa using h1
        rw [if_neg h1] at hk
        exact ⟨_, rfl, rfl, (fun e => by cases e), fun d hd => (q2 n hk).go sm hd⟩
      · have h1 : n ∈ ks := by simpa using h1
        rw [if_pos h1] at hk
        refine ⟨_, rfl, _, rfl, D, _, rfl, .inl (SqL.of hD), rfl, flat_strs _, _, rfl, ?_⟩
        rw [inV_strs]
        refine ite2 (fun h2 => ?_) (fun h2 => ?_)
        · have h2 : n ∈ ws.take i := by simpa using h2
          rw [if_pos h2] at hk
          exact ⟨_, rfl, rfl, (fun e => by cases e), fun d hd => (q3 n hk).go sm hd⟩
        · have h2 : n ∉ ws.take i := by simpa using h2
          rw [if_neg h2] at hk
          refine ⟨_, rfl, .inl ⟨rfl, _, SqL.of hD⟩, _, rfl, D, _, _, rfl, rfl, hD, ?_, ?_⟩
          · rw [List.length_map, List.length_take]
            exact small1000 (by omega)
          · refine ⟨_, rfl, fun b o e => ?_, ?_, ?_⟩
            · rw [upd_ne (ne_of_none e nD)]
              exact sm b o e
            · rw [upd_same, take_more hn, List.map_append]
              rfl
            · rw [take_more hn]
              exact hk
    · rintro σ H' ⟨y, rfl, sm, hD, hk⟩
      rw [List.length_map, List.take_length] at hD
      rw [List.length_map, List.drop_length] at hk
      exact ⟨_, rfl, D, _, rfl, .inl ⟨SqL.of hD, fun l hl => q1 hk l _ (sm.free hl) (sm.trans (same_upd hl)) upd_same⟩⟩
end

/-! ## lword -/
section
variable {P : Program} {w : World} {K : PySem.W.Frag} {mg : Str → Option Value} {base : Heap}
abbrev s__law_word : Stmt := topS 11
theorem sc__law_word : FnScope ["_law_box_here", "_law_letters", "_law_signs", "_law_size", "_law_word_here", "_law_k"] ["_law_box_here"] (defScope s__law_word) := ⟨rfl, rfl, rfl, by decide +kernel, rfl, by decide +kernel, by decide +kernel⟩
theorem get_in {l : List Nat} {n : Int} (h0 : 0 ≤ n) (h1 : n < l.length) : ∃ c, atI l n = some c ∧ c ∈ l := by
  obtain ⟨j, rfl⟩ : ∃ j : Nat, n = j := ⟨n.toNat, by omega⟩
  have hj : j < l.length := by omega
  exact ⟨l[j], atI_nat (List.getElem?_eq_getElem hj), List.getElem_mem hj⟩
theorem okc_sign {c : Nat} (h : c ∈ (LETTERS ++ DIGITS).cps.toList) : okc c = true := by
  rw [show (LETTERS ++ DIGITS).cps.toList = LETTERS.cps.toList ++ DIGITS.cps.toList by decide] at h
  unfold okc
  rw [Bool.or_eq_true, decide_eq_true_iff, decide_eq_true_iff]
  exact List.mem_append.mp h
def spWord : Sp := fun vs H Q _ => ∃ b l : Addr, vs = [.ref b] ∧ Box H b l ∧ ∀ (z : Str) (H' : Hp), Wd z → Bx b l H H' → Q (.str z) H'
theorem ok_word {k : Nat} (B : Bl mg) (D__law_next : Def P w K mg base CX0 k "_law_next" ["_law_box_here", "_law_many"] spNext) (F : Src K mg "_law_word" s__law_word ["_law_box_here"]) : Def P w K mg base CX0 (k + 1) "_law_word" ["_law_box_here"] spWord := by
  refine F.ok sc__law_word (fun vs H Q E h => ?_) (fun f cdv A outer s H vs Q E hr h => ?_)
  · obtain ⟨b, l, rfl, _⟩ := h
    rfl
  · obtain ⟨b, l, rfl, hb, q⟩ := h
    refine ⟨_, (pss_cons (ps_asg pe_str (pg_name (i := 1) sc__law_word.nd rfl (Or.inl rfl)))
 (pss_cons (ps_asg (pe_op op_add_str (pv 1) pe_str) (pg_name (i := 2) sc__law_word.nd rfl (Or.inl rfl)))
 (pss_cons (ps_asg (pe_op op_add pe_int (pe_def D__law_next hr pass0 (pa_cons (pv 0) (pa_cons pe_int pa_nil)))) (pg_name (i := 3) sc__law_word.nd rfl (Or.inl rfl)))
 (C8.pss_cut (ps_if (pt_cmpR op_eq (pe_def D__law_next hr pass0 (pa_cons (pv 0) (pa_cons pe_int pa_nil))) pe_int (nomark _)) (pss_one (ps_asg pe_int (pg_name (i := 3) sc__law_word.nd rfl (Or.inl rfl)))) pss_nil)
 (pss_cons (ps_asg (pe_ix ix_str (pv 1) (pe_def D__law_next hr pass0 (pa_cons (pv 0) (pa_cons pe_int pa_nil))) (fun _ _ => rfl)) (pg_name (i := 4) sc__law_word.nd rfl (Or.inl rfl)))
 (pss_cons (ps_for PassesOwn.never rfl (pi_range1 (by rfl) B.range (pa_cons (pe_op op_sub (pv 3) pe_int) pa_nil)) (pg_name (i := 5) sc__law_word.nd rfl (Or.inl rfl)) (pss_one (ps_asg (pe_op op_add_str (pv 4) (pe_ix ix_str (pv 2) (pe_def D__law_next hr pass0 (pa_cons (pv 0) (pa_cons pe_int pa_nil))) (fun _ _ => rfl))) (pg_name (i := 4) sc__law_word.nd rfl (Or.inl rfl)))))
 (pss_one (ps_ret (pv 4))))))))), ?_⟩
    refine ⟨_, rfl, _, _, rfl, rfl, by decide, ?_⟩
    refine ⟨_, rfl, b, l, 3, rfl, by decide, by decide, hb, fun n H1 n0 n1 s1 => ⟨_, _, rfl, rfl, ?_⟩⟩
    refine ⟨fun σ' H' => ∃ m : Int, 1 ≤ m ∧ m ≤ 12 ∧ σ' = [some (.ref b), some (.str LETTERS), some (.str (LETTERS ++ DIGITS)), some (.int m), none, none] ∧ Bx b l H H', ?_, ?_⟩
    · refine ⟨_, rfl, b, l, 8, rfl, by decide, by decide, s1.b1, fun n2 H2 _ _ s2 => ⟨rfl, _, rfl, ?_⟩⟩
      refine ite2 (fun h1 => ?_) (fun h1 => ?_)
      · exact ⟨12, by omega, by omega, rfl, s1.trans s2⟩
      · exact ⟨1 + n, by omega, by omega, rfl, s1.trans s2⟩
    · rintro σ' H' ⟨m, m1, m2, rfl, sm⟩
      refine ⟨_, rfl, _, rfl, b, l, 26, rfl, by decide, by decide, sm.b1, fun n3 H3 c0 c1 s3 => ?_⟩
      obtain ⟨c, hc, hcm⟩ := get_in (l := LETTERS.cps.toList) c0 (by show n3 < 26; exact c1)
      refine ⟨_, _, c, rfl, rfl, by decide, hc, ?_⟩
      refine ⟨_, rfl, _, _, rfl, rfl, m - 1, rfl, by omega, by omega, for_range (lo := 0) (n := (m - 1).toNat) (fun i σ H2 => ∃ (z : Str) (r : List Nat) (y : Option V), z.cps.toList = c :: r ∧ r.length = i ∧ (∀ d ∈ r, okc d = true) ∧ σ = [some (.ref b), some (.str LETTERS), some (.str (LETTERS ++ DIGITS)), some (.int m), some (.str z), y] ∧ Bx b l H H2)
        ⟨⟨#[c]⟩, [], none, rfl, rfl, (fun d hd => by cases hd), rfl, sm.trans s3⟩ ?_ ?_⟩
      · rintro i σ H2 hi ⟨z, r, y, hz, hr1, hr2, rfl, sm2⟩
        refine ⟨_, rfl, _, rfl, _, rfl, b, l, 36, rfl, by decide, by decide, sm2.b1, fun n4 H5 d0 d1 s5 => ?_⟩
        obtain ⟨c2, hc2, hcm2⟩ := get_in (l := (LETTERS ++ DIGITS).cps.toList) d0 (by show n4 < 36; exact d1)
        refine ⟨_, _, c2, rfl, rfl, by decide, hc2, _, _, rfl, rfl, ?_, ?_⟩
        · show z.length + 1 ≤ sizeLine
          rw [len_cps, hz, List.length_cons]
          exact Nat.le_trans (show r.length + 1 + 1 ≤ 1000 by omega) (by decide)
        · refine ⟨z ++ ⟨#[c2]⟩, r ++ [c2], _, ?_, by rw [List.length_append, hr1]; rfl, fun d hd => ?_, rfl, sm2.trans s5⟩
          · rw [Str.cps_append, Array.toList_append, hz]
            rfl
          · rcases List.mem_append.mp hd with h | h
            · exact hr2 d h
            · rw [List.mem_singleton.mp h]
              exact okc_sign hcm2
      · rintro σ H2 ⟨z, r, y, hz, hr1, hr2, rfl, sm2⟩
        refine ⟨_, rfl, q z H2 ?_ sm2⟩
        show wd z.cps.toList = true
        rw [hz]
        exact wd_cons hcm hr2 (by omega)
abbrev s__law_words : Stmt := topS 12
theorem sc__law_words : FnScope ["_law_box_here", "_law_many", "_law_words_here", "_law_turn", "_law_word_here", "_law_spare", "_law_k", "_law_other"] ["_law_box_here", "_law_many"] (defScope s__law_words) := ⟨rfl, rfl, rfl, by decide +kernel, rfl, by decide +kernel, by decide +kernel⟩
def spWords : Sp := fun vs H Q _ => ∃ (b l : Addr) (many : Nat), vs = [.ref b, .int many] ∧ many ≤ 30 ∧ Box H b l ∧ ∀ (p : Addr) (ws : List Str) (H' : Hp), ws.length = many → ws.Nodup → (∀ z ∈ ws, Wd z) → H p = none → Bx b l H H' → H' p = some (.lst (ws.map V.str)) → Q (.ref p) H'
theorem ok_words {k : Nat} (B : Bl mg) (D__law_word : Def P w K mg base CX0 k "_law_word" ["_law_box_here"] spWord) (F : Src K mg "_law_words" s__law_words ["_law_box_here", "_law_many"]) : Def P w K mg base CX0 (k + 1) "_law_words" ["_law_box_here", "_law_many"] spWords := by
  refine F.ok sc__law_words (fun vs H Q E h => ?_) (fun f cdv A outer s H vs Q E hr h => ?_)
  · obtain ⟨b, l, many, rfl, _⟩ := h
    rfl
  · obtain ⟨b, l, many, rfl, hm, hb, q⟩ := h
    refine ⟨_, (pss_cons (ps_asg (pe_lst pa_nil) (pg_name (i := 2) sc__law_words.nd rfl (Or.inr rfl)))
 (pss_cons (ps_for PassesOwn.never rfl (pi_range1 (by rfl) B.range (pa_cons (pv 1) pa_nil)) (pg_name (i := 3) sc__law_words.nd rfl (Or.inl rfl)) (pss_cons (ps_asg (pe_def D__law_word hr pass0 (pa_cons (pv 0) pa_nil)) (pg_name (i := 4) sc__law_words.nd rfl (Or.inr rfl)))
 (C8.pss_cut (ps_if (pt_cmpR (kop_in (K := K)) (pv 4) (pv 2) rfl) (pss_cons (ps_setLc (i := 5) (own := [("_law_k", 6)]) (g := gName 6) (by rfl) sc__law_words.nd rfl rfl (sw_true rfl rfl rfl (by decide +kernel)) (pi_range1 (by rfl) B.range (pa_cons pe_int pa_nil)) (blkOk_by (N := ["_law_box_here", "_law_many", "_law_words_here", "_law_turn", "_law_word_here", "_law_spare", "_law_k", "_law_other"]) (sc := defScope s__law_words) (by decide +kernel)) (fun _ _ _ _ _ => (pg_name (i := 6) sc__law_words.nd rfl (Or.inl rfl))) (fun _ _ _ _ _ => pts_nil) (fun _ _ _ _ _ => (pe_op op_add_str (pe_op op_add_str (pe_slice sl_str (pv 4) po_none (po_some pe_int)) pe_str) (pe_callTy call_str_int (by rfl) B.str' (by decide +kernel) (pa_cons (pv 6) pa_nil)))))
 (pss_cons (ps_setLc (i := 5) (own := [("_law_other", 7)]) (g := gName 7) (by rfl) sc__law_words.nd rfl rfl (sw_true rfl rfl rfl (by decide +kernel)) (kpi_list (K := K) (pv 5)) (blkOk_by (N := ["_law_box_here", "_law_many", "_law_words_here", "_law_turn", "_law_word_here", "_law_spare", "_law_k", "_law_other"]) (sc := defScope s__law_words) (by decide +kernel)) (fun _ _ _ _ _ => (pg_name (i := 7) sc__law_words.nd rfl (Or.inl rfl))) (fun _ _ _ _ _ => pts_one (pt_cmpR (kop_notIn (K := K)) (pv 7) (pv 2) rfl)) (fun _ _ _ _ _ => (pv 7)))
 (pss_one (ps_asg (pe_ix (kix_list (K := K)) (pv 5) pe_int (fun _ _ => rfl)) (pg_name (i := 4) sc__law_words.nd rfl (Or.inr rfl)))))) pss_nil)
 (pss_one (ps_expr (pe_bm PySem.F.plainAttrs_list PySem.F.slot_list_append PySem.F.type_list_append mt_append (pv 2) (pa_cons (pv 4) pa_nil)))))))
 (pss_one (ps_ret (pv 2))))), ?_⟩
    refine ⟨Nat.zero_le _, fun D nD => ?_⟩
    refine ⟨_, rfl, many, rfl, by omega, by omega, for_range (lo := 0) (n := many) (fun i σ H' => ∃ (ws : List Str) (y1 y2 y3 : Option V), σ = [some (.ref b), some (.int many), some (.ref D), y1, y2, y3, none, none] ∧ ws.length = i ∧ ws.Nodup ∧ (∀ z ∈ ws, Wd z) ∧ Bx b l H H' ∧ H' D = some (.lst (ws.map V.str)))
      ⟨[], none, none, none, rfl, rfl, List.nodup_nil, (fun z hz => by cases hz), hb.bx.new nD, upd_same⟩ ?_ ?_⟩
    · rintro i σ H' hi ⟨ws, y1, y2, y3, rfl, hl, hn, hw, sm, hD⟩
      refine ⟨_, rfl, b, l, rfl, sm.b1, fun z H2 hz s2 => ?_⟩
      have hD2 : H2 D = some (.lst (ws.map V.str)) := s2.at hD (hb.neb nD)
      have sm2 := sm.trans s2
      -- behind the if the word is new
      refine ⟨fun σ' H3 => ∃ (z' : Str) (y3 : Option V), σ' = [some (.ref b), some (.int many), some (.ref D), some (.int (0 + (i : Nat))), some (.str z'), y3, none, none] ∧ Wd z' ∧ z' ∉ ws ∧ Bx b l H H3 ∧ H3 D = some (.lst (ws.map V.str)), ?_, ?_⟩
      · refine ⟨_, rfl, _, rfl, D, _, rfl, .inl (SqL.of hD2), rfl, flat_strs _, _, rfl, ?_⟩
        rw [inV_strs]
        refine ite2 (fun h1 => ?_) (fun h1 => ?_)
        · -- thirty spares
          refine ⟨30, rfl, by decide, by decide, fun G nG => lc_range (lo := 0) (n := 30) (fun j H3 => Same H2 H3 ∧ H3 G = some (.lst (((List.range j).map (spare z)).map V.str))) ⟨same_upd nG, upd_same⟩ ?_ ?_⟩
          · rintro j H3 hj ⟨s3, hG⟩
            have l1 := cutS_length z none (some 9)
            have l2 := hz.len
            have hd := List.all_eq_true.mp digs30 j (List.mem_range.mpr hj)
            rw [Bool.and_eq_true, decide_eq_true_iff] at hd
            refine ⟨rfl, yes_if ?_⟩
            refine ⟨_, rfl, _, rfl, z, rfl, Nat.le_trans l2 (by decide), _, _, rfl, rfl, ?_, ?_⟩
            · show _ + 1 ≤ sizeLine
              exact Nat.le_trans (show _ + 1 ≤ 1000 by omega) (by decide)
            · refine ⟨_, rfl, (0 + (j : Nat) : Int), rfl, ?_, _, _, rfl, rfl, ?_, ?_⟩
              · have : (0 + (j : Nat) : Int).natAbs ≤ 2 ^ 10 := by omega
                exact Nat.lt_of_le_of_lt (Nat.log2_le_self _) (by omega)
              · rw [Str.length_append, Int.zero_add]
                show _ + 1 + (toString (j : Int) : Str).cps.toList.length ≤ sizeLine
                exact Nat.le_trans (show _ ≤ 1000 by omega) (by decide)
              · refine ⟨_, hG, ?_, fun b' o e => ?_, ?_⟩
                · rw [List.length_map, List.length_map, List.length_range]
                  exact small1000 (by omega)
                · rw [upd_ne (ne_of_none e nG)]
                  exact s3 b' o e
                · rw [upd_same, List.range_succ, List.map_append, List.map_append, Int.zero_add]
                  rfl
          · rintro H3 ⟨s3, hG⟩
            -- those that are not there yet
            have hD3 := s3 _ _ hD2
            refine ⟨_, rfl, G, rfl, ⟨_, SqL.of hG⟩, fun G2 nG2 => lc_list (K := K) (a := G) (xs := (spares z).map V.str) (fun j H4 => Same H3 H4 ∧ H4 G2 = some (.lst ((((spares z).take j).filter (fun o => decide (o ∉ ws))).map V.str))) ⟨same_upd nG2, upd_same⟩ (fun j H4 _ h4 => h4.1.seq (SqL.of hG)) ?_ ?_⟩
            · rintro j x H4 hj ⟨s4, hG2⟩
              obtain ⟨o, ho, rfl⟩ := map_get hj
              have hD4 := s4 _ _ hD3
              refine ⟨rfl, _, rfl, _, rfl, D, _, rfl, .inl (SqL.of hD4), rfl, flat_strs _, _, rfl, ?_⟩
              rw [inV_strs]
              have ht : ((spares z).take (j + 1)).filter (fun o => decide (o ∉ ws)) = ((spares z).take j).filter (fun o => decide (o ∉ ws)) ++ if o ∈ ws then [] else [o] := by
                rw [take_more ho, List.filter_append]
                by_cases h : o ∈ ws <;> simp [List.filter, h]
              refine ite2 (fun h2 => ?_) (fun h2 => ?_)
              · have h2 : o ∉ ws := by simpa using h2
                refine ⟨_, rfl, _, hG2, ?_, fun b' o' e => ?_, ?_⟩
                · rw [List.length_map]
                  refine small1000 (Nat.le_trans (List.length_filter_le _ _) ?_)
                  rw [List.length_take]
                  unfold spares
                  rw [List.length_map, List.length_range]
                  omega
                · rw [upd_ne (ne_of_none e nG2)]
                  exact s4 b' o' e
                · rw [upd_same, ht, if_neg h2, List.map_append]
                  rfl
              · have h2 : o ∈ ws := by simpa using h2
                refine ⟨s4, ?_⟩
                rw [ht, if_pos h2, List.append_nil]
                exact hG2
            · rintro H4 ⟨s4, hG2⟩
              rw [List.length_map, List.take_length] at hG2
              obtain ⟨y, r, e⟩ := spare_some (z := z) (ws := ws) (by omega)
              have hy : y ∈ (spares z).filter (fun o => decide (o ∉ ws)) := by rw [e]; exact List.mem_cons_self ..
              rw [e] at hG2
              obtain ⟨hy1, hy2⟩ := List.mem_filter.mp hy
              refine ⟨_, rfl, G2, _, _, _, rfl, rfl, SqL.of hG2, atI_nat (j := 0) (v := V.str y) rfl, ?_⟩
              exact ⟨y, _, rfl, spares_wd hz hy1, of_decide_eq_true hy2, (sm2.same s3).same s4, s4 _ _ hD3⟩
        · have h1 : z ∉ ws := by simpa using h1
          exact ⟨z, _, rfl, hz, h1, sm2, hD2⟩
      · rintro σ' H3 ⟨z', y3, rfl, hz', hni, sm3, hD3⟩
        refine ⟨_, rfl, .inl ⟨rfl, _, SqL.of hD3⟩, _, rfl, D, _, _, rfl, rfl, hD3, ?_, ?_⟩
        · rw [List.length_map]
          exact small1000 (by omega)
        · refine ⟨ws ++ [z'], _, _, _, rfl, by rw [List.length_append, hl]; rfl, ?_, fun x hx => ?_, sm3.mut nD, ?_⟩
          · rw [List.nodup_append]
            refine ⟨hn, by simp, fun a ha c hc e => hni ?_⟩
            rw [← List.mem_singleton.mp hc, ← e]
            exact ha
          · rcases List.mem_append.mp hx with h | h
            · exact hw x h
            · rw [List.mem_singleton.mp h]
              exact hz'
          · rw [upd_same, List.map_append]
            rfl
    · rintro σ H' ⟨ws, y1, y2, y3, rfl, hl, hn, hw, sm, hD⟩
      exact ⟨_, rfl, q D ws H' hl hn hw nD sm hD⟩
end

/-! ## k02 -/
section
variable {P : Program} {w : World} {K : PySem.W.Frag} {mg : Str → Option Value} {base : Heap}
abbrev s__law_number : Stmt := topS 13
theorem sc__law_number : FnScope ["_law_box_here", "_law_least", "_law_most", "_law_number_here", "_law_near", "_law_told", "_law_wrong", "_law_kinds", "e"] ["_law_box_here"] (defScope s__law_number) := ⟨rfl, rfl, rfl, by decide +kernel, rfl, by decide +kernel, by decide +kernel⟩
def spNum : Sp := fun vs H Q _ => ∃ b l : Addr, vs = [.ref b] ∧ Box H b l ∧ ∀ H' : Hp, Bx b l H H' → Q (.bl true) H'
theorem ok_num {k : Nat} {C_BadNumber f_BadNumber C_DoubleName C_UnknownName C_HeldError : Addr} (B : Bl mg) (X_BadNumber : ErrTxt P K mg false "BadNumber" C_BadNumber f_BadNumber ["number"]) (g_HeldError : Glo mg "HeldError" (.ref C_HeldError)) (g_DoubleName : Glo mg "DoubleName" (.ref C_DoubleName)) (g_UnknownName : Glo mg "UnknownName" (.ref C_UnknownName))
    (k1 : PySem.W.kitOne K (.ref C_BadNumber) (.ref C_HeldError) = some true) (k2 : PySem.W.kitOne K (.ref C_BadNumber) (.ref C_DoubleName) = some false) (k3 : PySem.W.kitOne K (.ref C_BadNumber) (.ref C_UnknownName) = some false)
    (D__law_next : Def P w K mg base CX0 k "_law_next" ["_law_box_here", "_law_many"] spNext) (D_check_number : Def P w K mg base (L2.CX P w) k "check_number" ["number", "least", "most"] (spCheckNumber C_BadNumber))
    (F : Src K mg "_law_number" s__law_number ["_law_box_here"]) : Def P w K mg base CX0 (k + 1) "_law_number" ["_law_box_here"] spNum := by
  refine F.ok sc__law_number (fun vs H Q E h => ?_) (fun f cdv A outer s H vs Q E hr h => ?_)
  · obtain ⟨b, l, rfl, _⟩ := h
    rfl
  · obtain ⟨b, l, rfl, hb, q⟩ := h
    refine ⟨_, (pss_cons (ps_asg (pe_op op_sub (pe_def D__law_next hr pass0 (pa_cons (pv 0) (pa_cons (pe_op op_mul pe_int (pe_op op_pow pe_int pe_int)) pa_nil))) (pe_op op_pow pe_int pe_int)) (pg_name (i := 1) sc__law_number.nd rfl (Or.inl rfl)))
 (pss_cons (ps_asg (pe_op op_add (pv 1) (pe_def D__law_next hr pass0 (pa_cons (pv 0) (pa_cons (pe_ix (kix_list (K := K)) (pe_lst (pa_cons pe_int (pa_cons pe_int (pa_cons (pe_op op_pow pe_int pe_int) pa_nil)))) (pe_def D__law_next hr pass0 (pa_cons (pv 0) (pa_cons pe_int pa_nil))) (fun _ _ => rfl)) pa_nil)))) (pg_name (i := 2) sc__law_number.nd rfl (Or.inl rfl)))
 (pss_cons (ps_asg (pe_op op_sub (pe_def D__law_next hr pass0 (pa_cons (pv 0) (pa_cons (pe_op op_mul pe_int (pe_op op_pow pe_int pe_int)) pa_nil))) (pe_op op_pow pe_int pe_int)) (pg_name (i := 3) sc__law_number.nd rfl (Or.inl rfl)))
 (pss_cons (ps_asg (pe_def D__law_next hr pass0 (pa_cons (pv 0) (pa_cons pe_int pa_nil))) (pg_name (i := 4) sc__law_number.nd rfl (Or.inl rfl)))
 (C8.pss_cut (ps_if (pt_cmpR op_eq (pv 4) pe_int (nomark _)) (pss_one (ps_asg (pe_op op_sub (pe_op op_add (pv 1) (pe_def D__law_next hr pass0 (pa_cons (pv 0) (pa_cons pe_int pa_nil)))) pe_int) (pg_name (i := 3) sc__law_number.nd rfl (Or.inl rfl)))) pss_nil)
 (C8.pss_cut (ps_if (pt_cmpR op_eq (pv 4) pe_int (nomark _)) (pss_one (ps_asg (pe_op op_sub (pe_op op_add (pv 2) (pe_def D__law_next hr pass0 (pa_cons (pv 0) (pa_cons pe_int pa_nil)))) pe_int) (pg_name (i := 3) sc__law_number.nd rfl (Or.inl rfl)))) pss_nil)
 (pss_cons (ps_asg pe_non (pg_name (i := 5) sc__law_number.nd rfl (Or.inl rfl)))
 (pss_cons (ps_asg pe_non (pg_name (i := 6) sc__law_number.nd rfl (Or.inl rfl)))
 (pss_cons (ps_asg pe_bl (pg_name (i := 7) sc__law_number.nd rfl (Or.inl rfl)))
 (pss_cons (ps_try_as (i := 8) rfl rfl sc__law_number.nd rfl rfl ⟨rfl, by decide, .inl X_BadNumber.gC⟩ takes0 (fun W pn xe tk _ => (pss_one (ps_asg (pe_defS D_check_number hr (fun σ => passAt tk σ) (pa_cons (pv 3) (pa_cons (pv 1) (pa_cons (pv 2) pa_nil)))) (pg_name (i := 5) sc__law_number.nd rfl (Or.inl rfl))))) (fun a oe cls d pn hz hf => (pss_cons (ps_asg (pe_xf X_BadNumber.xf (X_BadNumber.noN _ (by decide)) hz hf (pv 8)) (pg_name (i := 6) sc__law_number.nd rfl (Or.inl rfl)))
 (pss_one (ps_asg (pe_and (pe_callB (call_isD hz hf) (by rfl) B.isinstance (by decide +kernel) (pa_cons (pv 8) (pa_cons (pe_glo g_HeldError) pa_nil))) (pe_and (pe_not (pe_callB (call_isD hz hf) (by rfl) B.isinstance (by decide +kernel) (pa_cons (pv 8) (pa_cons (pe_glo g_DoubleName) pa_nil)))) (pe_one (pe_not (pe_callB (call_isD hz hf) (by rfl) B.isinstance (by decide +kernel) (pa_cons (pv 8) (pa_cons (pe_glo g_UnknownName) pa_nil))))))) (pg_name (i := 7) sc__law_number.nd rfl (Or.inl rfl)))))))
 (pss_cons (ps_if (pt_chain op_le op_le (pv 1) (pv 3) (pv 2)) (pss_one (ps_ret (pe_and (pe_callB (kcall_isi (K := K)) (by rfl) B.isinstance (by decide +kernel) (pa_cons (pv 5) (pa_cons (pe_bltn (v := .ty "int") (by rfl) B.int' (by decide +kernel) rfl) pa_nil))) (pe_and (pe_cmpR op_eq (pv 5) (pv 3) (nomark _)) (pe_one (pe_cmpR op_isN (pv 6) pe_non (nomark _))))))) pss_nil)
 (pss_one (ps_ret (pe_and (pe_cmpR op_isN (pv 5) pe_non (nomark _)) (pe_and (pe_cmpR op_eq (pv 6) (pv 3) (nomark _)) (pe_one (pv 7))))))))))))))))), ?_⟩
    have p15 : ((10 : Int) ^ (15 : Int).toNat) = 1000000000000000 := by decide
    refine ⟨_, rfl, _, _, rfl, rfl, ⟨by decide, by decide, by decide⟩, _, _, rfl, rfl, .inl ⟨by decide, by decide⟩, ?_⟩
    refine ⟨b, l, _, rfl, by decide, by decide, hb, fun n1 H1 a0 a1 s1 => ?_⟩
    refine ⟨_, _, rfl, rfl, ⟨by decide, by decide, by decide⟩, _, _, rfl, rfl, ?_⟩
    -- the range's end
    refine ⟨_, rfl, _, rfl, _, _, rfl, rfl, ⟨by decide, by decide, by decide⟩, by show 3 ≤ sizeLine; decide, fun p np => ?_⟩
    have s2 := s1.new (o := .lst [.int 1, .int 5, .int (10 ^ (15 : Int).toNat)]) np
    refine ⟨_, rfl, b, l, 3, rfl, by decide, by decide, s2.b1, fun n2 H2 b0 b1 s3 => ?_⟩
    obtain ⟨m, hm, m0, m1⟩ : ∃ m : Int, atI [V.int 1, V.int 5, V.int (10 ^ (15 : Int).toNat)] n2 = some (.int m) ∧ 0 < m ∧ m ≤ 10 ^ 40 := by
      have : n2 = 0 ∨ n2 = 1 ∨ n2 = 2 := by omega
      rcases this with rfl | rfl | rfl
      · exact ⟨1, rfl, by decide, by decide⟩
      · exact ⟨5, rfl, by decide, by decide⟩
      · exact ⟨_, rfl, by decide, by decide⟩
    have hp : H2 p = some (.lst [.int 1, .int 5, .int (10 ^ (15 : Int).toNat)]) := s3.at upd_same (s1.b1.neb np)
    refine ⟨p, _, _, _, rfl, rfl, SqL.of hp, hm, ?_⟩
    refine ⟨b, l, m, rfl, m0, m1, s3.b1, fun n3 H3 c0 c1 s4 => ⟨_, _, rfl, rfl, ?_⟩⟩
    -- the number
    refine ⟨_, rfl, _, _, rfl, rfl, ⟨by decide, by decide, by decide⟩, _, _, rfl, rfl, .inl ⟨by decide, by decide⟩, ?_⟩
    refine ⟨b, l, _, rfl, by decide, by decide, s4.b1, fun n4 H4 d0 d1 s5 => ?_⟩
    refine ⟨_, _, rfl, rfl, ⟨by decide, by decide, by decide⟩, _, _, rfl, rfl, ?_⟩
    refine ⟨_, rfl, b, l, 3, rfl, by decide, by decide, s5.b1, fun near H5 e0 e1 s6 => ?_⟩
    have s7 : Bx b l H H5 := (((s2.trans s3).trans s4).trans s5).trans s6
    generalize hlo : n1 - 10 ^ (15 : Int).toNat = lo
    generalize hhi : lo + n3 = hi
    refine ⟨fun σ' H6 => ∃ no : Int, σ' = [some (.ref b), some (.int lo), some (.int hi), some (.int no), some (.int near), none, none, none, none] ∧ Bx b l H H6, ?_, ?_⟩
    · refine ⟨_, rfl, rfl, _, rfl, ?_⟩
      refine ite2 (fun h1 => ?_) (fun h1 => ?_)
      · refine ⟨_, rfl, _, rfl, b, l, 5, rfl, by decide, by decide, s6.b1, fun n6 H6 f0 f1 s8 => ⟨_, _, rfl, rfl, _, _, rfl, rfl, ?_⟩⟩
        exact ⟨_, by subst hlo hhi; rfl, s7.trans s8⟩
      · exact ⟨_, by subst hlo hhi; rfl, s7⟩
    · rintro σ' H6 ⟨no, rfl, s8⟩
      refine ⟨fun σ' H6 => ∃ no : Int, σ' = [some (.ref b), some (.int lo), some (.int hi), some (.int no), some (.int near), none, none, none, none] ∧ Bx b l H H6, ?_, ?_⟩
      · refine ⟨_, rfl, rfl, _, rfl, ?_⟩
        refine ite2 (fun h1 => ?_) (fun h1 => ?_)
        · refine ⟨_, rfl, _, rfl, b, l, 5, rfl, by decide, by decide, s8.b1, fun n6 H6 f0 f1 s9 => ⟨_, _, rfl, rfl, _, _, rfl, rfl, ?_⟩⟩
          exact ⟨_, rfl, s8.trans s9⟩
        · exact ⟨_, rfl, s8⟩
      · rintro σ' H7 ⟨no, rfl, s9⟩
        refine ⟨_, rfl, _, rfl, _, rfl, no, lo, hi, rfl, fun hin => ?_, fun hout H8 d sm nd hd => ?_⟩
        · refine ⟨_, rfl, _, rfl, _, _, rfl, rfl, _, rfl, ?_⟩
          rw [decide_eq_true hin.1]
          refine iteT ⟨_, rfl, _, _, rfl, rfl, _, rfl, ?_⟩
          rw [decide_eq_true hin.2]
          refine iteT ⟨_, rfl, _, _, _, _, true, rfl, .ty _, .base (.int _), kit_ty (by decide +kernel), _, rfl, ?_⟩
          refine iteT ⟨_, rfl, _, rfl, rfl, _, rfl, ?_⟩
          rw [decide_eq_true rfl]
          exact iteT ⟨_, rfl, rfl, q _ s9⟩
        · refine ⟨true, X_BadNumber.te, fun _ a ha => ?_, fun e => Bool.noConfusion e⟩
          have hi5 := X_BadNumber.isC
          refine ⟨_, rfl, rfl, rfl, d, _, _, rfl, hd, rfl, ?_⟩
          refine ⟨_, rfl, _, d, _, _, _, true, rfl, hi5, rfl, hd, rfl, fun u r => r, k1, _, rfl, ?_⟩
          refine iteT ⟨_, rfl, _, d, _, _, _, false, rfl, hi5, rfl, hd, rfl, fun u r => r, k2, _, rfl, _, rfl, ?_⟩
          refine iteT ⟨_, rfl, _, d, _, _, _, false, rfl, hi5, rfl, hd, rfl, fun u r => r, k3, _, rfl, ?_⟩
          refine ⟨_, rfl, _, rfl, _, _, rfl, rfl, _, rfl, ?_⟩
          by_cases hl : lo ≤ no
          · rw [decide_eq_true hl]
            have hh : ¬ no ≤ hi := fun e => hout ⟨hl, e⟩
            refine iteT ⟨_, rfl, _, _, rfl, rfl, _, rfl, ?_⟩
            rw [decide_eq_false hh]
            refine iteF ⟨_, rfl, rfl, _, rfl, ?_⟩
            refine iteT ⟨_, rfl, _, rfl, rfl, _, rfl, ?_⟩
            rw [decide_eq_true rfl]
            exact iteT ⟨_, rfl, q _ (s9.same sm)⟩
          · rw [decide_eq_false hl]
            refine iteF ⟨_, rfl, ?_⟩
            refine iteF ⟨_, rfl, rfl, _, rfl, ?_⟩
            refine iteT ⟨_, rfl, _, rfl, rfl, _, rfl, ?_⟩
            rw [decide_eq_true rfl]
            exact iteT ⟨_, rfl, q _ (s9.same sm)⟩
abbrev s__law_due : Stmt := topS 14
theorem sc__law_due : FnScope ["_law_names_here", "_law_known", "_law_k"] ["_law_names_here", "_law_known"] (defScope s__law_due) := ⟨rfl, rfl, rfl, by decide +kernel, rfl, by decide +kernel, by decide +kernel⟩
def dueD (ks ws : List Str) : PyData := match chk ks [] ws with
  | none => .tuple [.str "good", dStrs ws]
  | some (true, n) => .tuple [.str "unknown", .str n]
  | some (false, n) => .tuple [.str "double", .str n]
def spDue (K : PySem.W.Frag) : Sp := fun vs H Q _ => ∃ (a c : Addr) (ws ks : List Str), vs = [.ref a, .ref c] ∧ SqL K H a (ws.map V.str) ∧ SqL K H c (ks.map V.str) ∧ ws.length ≤ 1000 ∧
  ∀ (p : Addr) (H' : Hp), Same H H' → Dp K H' (.ref p) (dueD ks ws) → Q (.ref p) H'
theorem ok_due {k : Nat} (B : Bl mg) (F : Src K mg "_law_due" s__law_due ["_law_names_here", "_law_known"]) : Def P w K mg base CX0 (k + 1) "_law_due" ["_law_names_here", "_law_known"] (spDue K) := by
  refine F.ok sc__law_due (fun vs H Q E h => ?_) (fun f cdv A outer s H vs Q E hr h => ?_)
  · obtain ⟨a, c, ws, ks, rfl, _⟩ := h
    rfl
  · obtain ⟨a, c, ws, ks, rfl, ha, hc, hlen, q⟩ := h
    refine ⟨_, (pss_cons (ps_for PassesOwn.never rfl (pi_range1 (by rfl) B.range (pa_cons (pe_callB (kcall_len (K := K)) (by rfl) B.len PySem.boot_len (pa_cons (pv 0) pa_nil)) pa_nil)) (pg_name (i := 2) sc__law_due.nd rfl (Or.inl rfl)) (pss_cons (ps_if (pt_cmpR (kop_notIn (K := K)) (pe_ix (kix_list (K := K)) (pv 0) (pv 2) (fun _ _ => rfl)) (pv 1) rfl) (pss_one (ps_ret (pe_tup (pa_cons pe_str (pa_cons (pe_ix (kix_list (K := K)) (pv 0) (pv 2) (fun _ _ => rfl)) pa_nil))))) pss_nil)
 (pss_one (ps_if (pt_cmpR (kop_in (K := K)) (pe_ix (kix_list (K := K)) (pv 0) (pv 2) (fun _ _ => rfl)) (pe_slice (ksl_list (K := K)) (pv 0) po_none (po_some (pv 2))) rfl) (pss_one (ps_ret (pe_tup (pa_cons pe_str (pa_cons (pe_ix (kix_list (K := K)) (pv 0) (pv 2) (fun _ _ => rfl)) pa_nil))))) pss_nil))))
 (pss_one (ps_ret (pe_tup (pa_cons pe_str (pa_cons (pv 0) pa_nil)))))), ?_⟩
    refine ⟨_, rfl, a, _, rfl, .inl ha, _, rfl, by omega, by rw [List.length_map]; omega, for_range (lo := 0) (n := ((ws.map V.str).length : Int).toNat) (fun i σ H' => ∃ y, σ = [some (.ref a), some (.ref c), y] ∧ Same H H' ∧ chk ks [] ws = chk ks (ws.take i) (ws.drop i))
      ⟨none, rfl, Same.refl H, rfl⟩ ?_ ?_⟩
    · rintro i σ H' hi ⟨y, rfl, sm, hk⟩
      have hi : i < ws.length := by rw [List.length_map] at hi; omega
      obtain ⟨n, hn⟩ : ∃ n, ws[i]? = some n := ⟨ws[i], List.getElem?_eq_getElem hi⟩
      have hv : (ws.map V.str)[i]? = some (.str n) := by rw [List.getElem?_map, hn]; rfl
      have hat : atI (ws.map V.str) (0 + (i : Int)) = some (.str n) := by rw [Int.zero_add]; exact atI_nat hv
      have hdr : ws.drop i = n :: ws.drop (i + 1) := List.drop_eq_getElem?_toList_append.trans (by rw [hn]; rfl)
      rw [hdr, chk_cons] at hk
      refine ⟨_, rfl, _, rfl, a, _, _, _, rfl, rfl, sm.seq ha, hat, _, rfl, c, _, rfl, .inl (sm.seq hc), rfl, flat_strs _, _, rfl, ?_⟩
      rw [inV_strs]
      refine ite2 (fun h1 => ?_) (fun h1 => ?_)
      · have h1 : n ∉ ks := by simpa using h1
        rw [if_neg h1] at hk
        refine ⟨_, rfl, _, rfl, a, _, _, _, rfl, rfl, sm.seq ha, hat, by show 2 ≤ sizeLine; decide, fun p hp => q p _ (sm.trans (same_upd hp)) ?_⟩
        unfold dueD
        rw [hk]
        exact .tup (SqT.of upd_same) (.cons (.str _) (.cons (.str _) .nil))
      · have h1 : n ∈ ks := by simpa using h1
        rw [if_pos h1] at hk
        refine ⟨_, rfl, _, rfl, a, _, _, _, rfl, rfl, sm.seq ha, hat, _, rfl, _, rfl, _, rfl, a, _, rfl, sm.seq ha, fun p hp => ?_⟩
        rw [Int.zero_add, cutV_take, ← List.map_take]
        have sm2 := sm.trans (same_upd (o := .lst ((ws.take i).map V.str)) hp)
        refine ⟨p, _, rfl, .inl (SqL.of upd_same), rfl, flat_strs _, _, rfl, ?_⟩
        rw [inV_strs]
        refine ite2 (fun h2 => ?_) (fun h2 => ?_)
        · have h2 : n ∈ ws.take i := by simpa using h2
          rw [if_pos h2] at hk
          refine ⟨_, rfl, _, rfl, a, _, _, _, rfl, rfl, sm2.seq ha, by rw [← Int.zero_add (i : Int)]; exact hat, by show 2 ≤ sizeLine; decide, fun p2 hp2 => q p2 _ (sm2.trans (same_upd hp2)) ?_⟩
          unfold dueD
          rw [hk]
          exact .tup (SqT.of upd_same) (.cons (.str _) (.cons (.str _) .nil))
        · have h2 : n ∉ ws.take i := by simpa using h2
          rw [if_neg h2] at hk
          refine ⟨_, rfl, sm2, ?_⟩
          rw [take_more hn]
          exact hk
    · rintro σ H' ⟨y, rfl, sm, hk⟩
      rw [List.length_map, Int.toNat_natCast, List.drop_length] at hk
      refine ⟨_, rfl, by show 2 ≤ sizeLine; decide, fun p hp => q p _ (sm.trans (same_upd hp)) ?_⟩
      unfold dueD
      rw [hk]
      exact .tup (SqT.of upd_same) (.cons (.str _) (.cons (.lst ((sm.trans (same_upd hp)).seq ha) (dpall_strs _)) .nil))
theorem chk_mem {ks : List Str} {b : Bool} {n : Str} : ∀ {ws seen : List Str}, chk ks seen ws = some (b, n) → n ∈ ws
  | [], _, h => by cases h
  | m :: r, seen, h => by
    rw [chk_cons] at h
    by_cases h1 : m ∈ ks
    · rw [if_pos h1] at h
      by_cases h2 : m ∈ seen
      · rw [if_pos h2] at h
        cases h
        exact List.mem_cons_self ..
      · rw [if_neg h2] at h
        exact List.mem_cons_of_mem _ (chk_mem h)
    · rw [if_neg h1] at h
      cases h
      exact List.mem_cons_self ..
theorem nb_due {ks ws : List Str} (h : ∀ z ∈ ws, Asc z) : nb (dueD ks ws) = true := by
  unfold dueD
  cases e : chk ks [] ws with
  | none =>
    show (PyData.strOk "good" && (nbAll (ws.map PyData.str) && true)) = true
    rw [nb_strs h]
    decide +kernel
  | some x =>
    obtain ⟨b, n⟩ := x
    have hn := (h n (chk_mem e)).ok
    cases b with
    | true =>
      show (PyData.strOk "unknown" && (PyData.strOk n && true)) = true
      rw [hn]
      decide +kernel
    | false =>
      show (PyData.strOk "double" && (PyData.strOk n && true)) = true
      rw [hn]
      decide +kernel
theorem depth_due (ks ws : List Str) : (dueD ks ws).depth ≤ 64 := by
  unfold dueD
  have := depth_strs ws
  cases e : chk ks [] ws with
  | none =>
    simp only [PyData.depth, PyData.depthAll]
    omega
  | some x =>
    obtain ⟨b, n⟩ := x
    cases b <;> simp [PyData.depth, PyData.depthAll]
abbrev s__law_names : Stmt := topS 15
theorem sc__law_names : FnScope ["_law_box_here", "_law_known", "_law_names_here", "_law_k", "_law_word_here", "_law_at", "_law_told", "_law_kinds", "_law_handed", "_law_held", "_law_result", "e"] ["_law_box_here"] (defScope s__law_names) := ⟨rfl, rfl, rfl, by decide +kernel, rfl, by decide +kernel, by decide +kernel⟩
theorem ok_nam {k : Nat} {C_UnknownName f_UnknownName C_DoubleName f_DoubleName C_HeldError : Addr} (B : Bl mg) (X_UnknownName : ErrTxt P K mg false "UnknownName" C_UnknownName f_UnknownName ["name"]) (X_DoubleName : ErrTxt P K mg false "DoubleName" C_DoubleName f_DoubleName ["name"])
    (g_HeldError : Glo mg "HeldError" (.ref C_HeldError)) (g_DoubleName : Glo mg "DoubleName" (.ref C_DoubleName)) (g_UnknownName : Glo mg "UnknownName" (.ref C_UnknownName))
    (k1 : PySem.W.kitOne K (.ref C_UnknownName) (.ref C_HeldError) = some true) (k2 : PySem.W.kitOne K (.ref C_UnknownName) (.ref C_DoubleName) = some false) (k3 : PySem.W.kitOne K (.ref C_DoubleName) (.ref C_HeldError) = some true) (k4 : PySem.W.kitOne K (.ref C_DoubleName) (.ref C_UnknownName) = some false)
    (k5 : PySem.W.exmOne K (.ref C_DoubleName) (.ref C_UnknownName) = some false)
    (D__law_next : Def P w K mg base CX0 k "_law_next" ["_law_box_here", "_law_many"] spNext) (D__law_word : Def P w K mg base CX0 k "_law_word" ["_law_box_here"] spWord) (D__law_words : Def P w K mg base CX0 k "_law_words" ["_law_box_here", "_law_many"] spWords)
    (D_check_names : Def P w K mg base (L2.CX P w) k "check_names" ["names", "known"] (spCheckNames K C_UnknownName C_DoubleName)) (D__law_due : Def P w K mg base CX0 k "_law_due" ["_law_names_here", "_law_known"] (spDue K))
    (F : Src K mg "_law_names" s__law_names ["_law_box_here"]) : Def P w K mg base CX0 (k + 1) "_law_names" ["_law_box_here"] spNum := by
  refine F.ok sc__law_names (fun vs H Q E h => ?_) (fun f cdv A outer s H vs Q E hr h => ?_)
  · obtain ⟨b, l, rfl, _⟩ := h
    rfl
  · obtain ⟨b, l, rfl, hb, q⟩ := h
    refine ⟨_, (pss_cons (ps_asg (pe_def D__law_words hr pass0 (pa_cons (pv 0) (pa_cons (pe_def D__law_next hr pass0 (pa_cons (pv 0) (pa_cons pe_int pa_nil))) pa_nil))) (pg_name (i := 1) sc__law_names.nd rfl (Or.inl rfl)))
 (pss_cons (ps_asg (pe_lst pa_nil) (pg_name (i := 2) sc__law_names.nd rfl (Or.inl rfl)))
 (pss_cons (ps_for PassesOwn.never rfl (pi_range1 (by rfl) B.range (pa_cons (pe_def D__law_next hr pass0 (pa_cons (pv 0) (pa_cons pe_int pa_nil))) pa_nil)) (pg_name (i := 3) sc__law_names.nd rfl (Or.inl rfl)) (pss_cons (ps_asg (pe_def D__law_word hr pass0 (pa_cons (pv 0) pa_nil)) (pg_name (i := 4) sc__law_names.nd rfl (Or.inl rfl)))
 (pss_cons (ps_asg (pe_def D__law_next hr pass0 (pa_cons (pv 0) (pa_cons pe_int pa_nil))) (pg_name (i := 5) sc__law_names.nd rfl (Or.inl rfl)))
 (C8.pss_cut (ps_if (PW.pt (pw_and (pt_cmpR op_lt (pv 5) (pe_callB (kcall_len (K := K)) (by rfl) B.len PySem.boot_len (pa_cons (pv 1) pa_nil)) (nomark _)) (pw_and1 (pt_cmpR op_gt (pe_def D__law_next hr pass0 (pa_cons (pv 0) (pa_cons pe_int pa_nil))) pe_int (nomark _))))) (pss_one (ps_asg (pe_ix (kix_list (K := K)) (pv 1) (pv 5) (fun _ _ => rfl)) (pg_name (i := 4) sc__law_names.nd rfl (Or.inl rfl)))) pss_nil)
 (pss_one (ps_expr (pe_bm PySem.F.plainAttrs_list PySem.F.slot_list_append PySem.F.type_list_append mt_append (pv 2) (pa_cons (pv 4) pa_nil))))))))
 (pss_cons (ps_asg pe_non (pg_name (i := 6) sc__law_names.nd rfl (Or.inl rfl)))
 (pss_cons (ps_asg pe_bl (pg_name (i := 7) sc__law_names.nd rfl (Or.inl rfl)))
 (pss_cons (ps_asg (pe_callTy (kcall_list (K := K)) (by rfl) B.list' (by decide +kernel) (pa_cons (pv 2) pa_nil)) (pg_name (i := 8) sc__law_names.nd rfl (Or.inl rfl)))
 (pss_cons (ps_asg (pe_callTy (kcall_list (K := K)) (by rfl) B.list' (by decide +kernel) (pa_cons (pv 1) pa_nil)) (pg_name (i := 9) sc__law_names.nd rfl (Or.inl rfl)))
 (C8.pss_cut (ps_try_all (K := K) rfl rfl sc__law_names.nd takes0 (fun W pn xe tk _ => (pss_cons (ps_asg (pe_defS D_check_names hr (fun σ => passAt tk σ) (pa_cons (pv 8) (pa_cons (pv 9) pa_nil))) (pg_name (i := 10) sc__law_names.nd rfl (Or.inl rfl)))
 (pss_cons (ps_asg (pe_callB (kcall_isi (K := K)) (by rfl) B.isinstance (by decide +kernel) (pa_cons (pv 10) (pa_cons (pe_bltn (v := .ty "tuple") (by rfl) B.tuple' (by decide +kernel) rfl) pa_nil))) (pg_name (i := 7) sc__law_names.nd rfl (Or.inl rfl)))
 (pss_one (ps_asg (pe_tup (pa_cons pe_str (pa_cons (pe_callTy (kcall_list (K := K)) (by rfl) B.list' (by decide +kernel) (pa_cons (pv 10) pa_nil)) pa_nil))) (pg_name (i := 6) sc__law_names.nd rfl (Or.inl rfl))))))) (by exact (.named (i := 11) rfl rfl ⟨rfl, by decide, .inl X_UnknownName.gC⟩ (fun a oe cls d pn hz hf => (pss_cons (ps_asg (pe_tup (pa_cons pe_str (pa_cons (pe_xf X_UnknownName.xf (X_UnknownName.noN _ (by decide)) hz hf (pv 11)) pa_nil))) (pg_name (i := 6) sc__law_names.nd rfl (Or.inl rfl)))
 (pss_one (ps_asg (pe_and (pe_callB (call_isD hz hf) (by rfl) B.isinstance (by decide +kernel) (pa_cons (pv 11) (pa_cons (pe_glo g_HeldError) pa_nil))) (pe_one (pe_not (pe_callB (call_isD hz hf) (by rfl) B.isinstance (by decide +kernel) (pa_cons (pv 11) (pa_cons (pe_glo g_DoubleName) pa_nil)))))) (pg_name (i := 7) sc__law_names.nd rfl (Or.inl rfl)))))) (.named (i := 11) rfl rfl ⟨rfl, by decide, .inl X_DoubleName.gC⟩ (fun a oe cls d pn hz hf => (pss_cons (ps_asg (pe_tup (pa_cons pe_str (pa_cons (pe_xf X_DoubleName.xf (X_DoubleName.noN _ (by decide)) hz hf (pv 11)) pa_nil))) (pg_name (i := 6) sc__law_names.nd rfl (Or.inl rfl)))
 (pss_one (ps_asg (pe_and (pe_callB (call_isD hz hf) (by rfl) B.isinstance (by decide +kernel) (pa_cons (pv 11) (pa_cons (pe_glo g_HeldError) pa_nil))) (pe_one (pe_not (pe_callB (call_isD hz hf) (by rfl) B.isinstance (by decide +kernel) (pa_cons (pv 11) (pa_cons (pe_glo g_UnknownName) pa_nil)))))) (pg_name (i := 7) sc__law_names.nd rfl (Or.inl rfl)))))) .nil))))
 (pss_one (ps_ret (pe_and (pv 7) (pe_and (pe_cmpR (kop_eqD (K := K) hr.units) (pv 6) (pe_def D__law_due hr pass0 (pa_cons (pv 2) (pa_cons (pv 1) pa_nil))) (nomark _)) (pe_and (pe_cmpR (kop_eqD (K := K) hr.units) (pv 8) (pv 2) (nomark _)) (pe_one (pe_cmpR (kop_eqD (K := K) hr.units) (pv 9) (pv 1) (nomark _)))))))))))))))), ?_⟩
    -- the known words
    refine ⟨_, rfl, _, rfl, b, l, 6, rfl, by decide, by decide, hb, fun n1 H1 a0 a1 s1 => ?_⟩
    obtain ⟨m1, rfl⟩ : ∃ m : Nat, n1 = m := ⟨n1.toNat, by omega⟩
    refine ⟨b, l, m1, rfl, by omega, s1.b1, fun pk ks H2 kl kn kw np s2 hpk => ?_⟩
    -- the names
    refine ⟨Nat.zero_le _, fun D nD => ?_⟩
    have s3 := (s1.trans s2).new (o := .lst []) nD
    have hpk3 : (upd H2 D (.lst [])) pk = some (.lst (ks.map V.str)) := same_upd nD _ _ hpk
    have npb : pk ≠ b := s1.b1.neb np
    have nDb : D ≠ b := s2.b1.neb nD
    refine ⟨_, rfl, b, l, 7, rfl, by decide, by decide, s3.b1, fun n2 H3 b0 b1 s4 => ⟨n2, rfl, by omega, by omega, for_range (lo := 0) (n := n2.toNat) (fun i σ H' => ∃ (ws : List Str) (y1 y2 y3 : Option V), σ = [some (.ref b), some (.ref pk), some (.ref D), y1, y2, y3, none, none, none, none, none, none] ∧ ws.length = i ∧ (∀ z ∈ ws, Wd z) ∧ Bx b l H H' ∧ H' D = some (.lst (ws.map V.str)) ∧ H' pk = some (.lst (ks.map V.str)))
      ⟨[], none, none, none, rfl, rfl, (fun z hz => by cases hz), s3.trans s4, s4.at upd_same nDb, s4.at hpk3 npb⟩ ?_ ?_⟩⟩
    · rintro i σ H' hi ⟨ws, y1, y2, y3, rfl, hl, hw, sm, hD, hK⟩
      refine ⟨_, rfl, b, l, rfl, sm.b1, fun z H4 hz s5 => ?_⟩
      refine ⟨_, rfl, b, l, 6, rfl, by decide, by decide, s5.b1, fun at' H5 c0 c1 s6 => ?_⟩
      have s7 := (sm.trans s5).trans s6
      have hD5 := s6.at (s5.at hD nDb) nDb
      have hK5 := s6.at (s5.at hK npb) npb
      refine ⟨fun σ' H6 => ∃ z' : Str, σ' = [some (.ref b), some (.ref pk), some (.ref D), some (.int (0 + (i : Nat))), some (.str z'), some (.int at'), none, none, none, none, none, none] ∧ Wd z' ∧ Bx b l H H6 ∧ H6 D = some (.lst (ws.map V.str)) ∧ H6 pk = some (.lst (ks.map V.str)), ?_, ?_⟩
      · refine ⟨_, rfl, _, rfl, pk, _, rfl, .inl (SqL.of hK5), _, _, rfl, rfl, _, rfl, ?_⟩
        refine ite2 (fun h1 => ?_) (fun h1 => ?_)
        · have h1 : at' < (ks.map V.str).length := of_decide_eq_true h1
          rw [List.length_map] at h1
          refine ⟨_, rfl, b, l, 8, rfl, by decide, by decide, s7.b1, fun n3 H6 d0 d1 s8 => ⟨_, _, rfl, rfl, _, rfl, ?_⟩⟩
          have hD6 := s8.at hD5 nDb
          have hK6 := s8.at hK5 npb
          refine ite2 (fun h2 => ?_) (fun h2 => ?_)
          · obtain ⟨j, rfl⟩ : ∃ j : Nat, at' = j := ⟨at'.toNat, by omega⟩
            have hj : j < ks.length := by omega
            have hg : (ks.map V.str)[j]? = some (.str ks[j]) := by rw [List.getElem?_map, List.getElem?_eq_getElem hj]; rfl
            refine ⟨_, rfl, _, rfl, pk, _, _, _, rfl, rfl, SqL.of hK6, atI_nat hg, ?_⟩
            exact ⟨_, rfl, kw _ (List.getElem_mem hj), s7.trans s8, hD6, hK6⟩
          · exact ⟨_, rfl, hz, s7.trans s8, hD6, hK6⟩
        · exact iteF ⟨_, rfl, hz, s7, hD5, hK5⟩
      · rintro σ' H6 ⟨z', rfl, hz', s8, hD6, hK6⟩
        refine ⟨_, rfl, .inl ⟨rfl, _, SqL.of hD6⟩, _, rfl, D, _, _, rfl, rfl, hD6, ?_, ?_⟩
        · rw [List.length_map]
          exact small1000 (by omega)
        · refine ⟨ws ++ [z'], _, _, _, rfl, by rw [List.length_append, hl]; rfl, fun x hx => ?_, s8.mut ((s1.trans s2).free nD), ?_, ?_⟩
          · rcases List.mem_append.mp hx with h | h
            · exact hw x h
            · rw [List.mem_singleton.mp h]
              exact hz'
          · rw [upd_same, List.map_append]
            rfl
          · rw [upd_ne (ne_of_none hpk nD)]
            exact hK6
    · rintro σ H' ⟨ws, y1, y2, y3, rfl, hl, hw, sm, hD, hK⟩
      have hA : ∀ z ∈ ws, Asc z := fun z hz => (hw z hz).asc
      have hA2 : ∀ z ∈ ks, Asc z := fun z hz => (kw z hz).asc
      -- the copies
      refine ⟨_, rfl, D, _, rfl, .inl (SqL.of hD), fun h1 nh1 => ?_⟩
      have t1 := same_upd (o := .lst (ws.map V.str)) nh1
      refine ⟨_, rfl, pk, _, rfl, .inl (SqL.of (t1 _ _ hK)), fun h2 nh2 => ?_⟩
      have t2 := same_upd (o := .lst (ks.map V.str)) nh2
      have t3 := t1.trans t2
      -- behind the try
      refine ⟨fun σ' H6 => ∃ p : Addr, σ' = [some (.ref b), some (.ref pk), some (.ref D), y1, y2, y3, some (.ref p), some (.bl true), some (.ref h1), some (.ref h2), σ'.getD 10 none, none] ∧ Same (upd (upd H' h1 (.lst (ws.map V.str))) h2 (.lst (ks.map V.str))) H6 ∧ Dp K H6 (.ref p) (dueD ks ws), ?_, ?_⟩
      · refine ⟨_, rfl, _, rfl, h1, h2, ws, ks, rfl, SqL.of (t2 _ _ upd_same), .inl (SqL.of upd_same), by omega, fun hk p H7 np7 s7 hp7 => ?_, fun n hk => ?_, fun n hk => ?_⟩
        · refine ⟨_, rfl, _, _, _, _, true, rfl, .ty _, .base (.tup hp7), kit_ty (by decide +kernel), ?_⟩
          refine ⟨_, rfl, p, _, rfl, .inr (SqT.of hp7), fun l2 nl2 => ⟨by show 2 ≤ sizeLine; decide, fun p2 np2 => ?_⟩⟩
          refine ⟨p2, rfl, (s7.trans (same_upd nl2)).trans (same_upd np2), ?_⟩
          unfold dueD
          rw [hk]
          exact .tup (SqT.of upd_same) (.cons (.str _) (.cons (.lst (SqL.of (same_upd np2 _ _ upd_same)) (dpall_strs _)) .nil))
        · intro H7 d s7 nd hd
          refine ⟨true, X_UnknownName.te, fun _ a ha => ?_, fun e => Bool.noConfusion e⟩
          have hi5 := X_UnknownName.isC
          refine ⟨_, rfl, rfl, rfl, d, _, _, rfl, hd, rfl, by show 2 ≤ sizeLine; decide, fun p2 np2 => ?_⟩
          have hd2 := same_upd (o := .tup [.str "unknown", .str n]) np2 _ _ hd
          refine ⟨_, rfl, _, d, _, _, _, true, rfl, hi5, rfl, hd2, rfl, fun u r => r, k1, _, rfl, ?_⟩
          refine iteT ⟨_, rfl, _, d, _, _, _, false, rfl, hi5, rfl, hd2, rfl, fun u r => r, k2, _, rfl, ?_⟩
          refine ⟨p2, rfl, s7.trans (same_upd np2), ?_⟩
          unfold dueD
          rw [hk]
          exact .tup (SqT.of upd_same) (.cons (.str _) (.cons (.str _) .nil))
        · intro H7 d s7 nd hd
          refine ⟨false, k5, fun e => Bool.noConfusion e, fun _ => ?_⟩
          refine ⟨true, X_DoubleName.te, fun _ a ha => ?_, fun e => Bool.noConfusion e⟩
          have hi5 := X_DoubleName.isC
          refine ⟨_, rfl, rfl, rfl, d, _, _, rfl, hd, rfl, by show 2 ≤ sizeLine; decide, fun p2 np2 => ?_⟩
          have hd2 := same_upd (o := .tup [.str "double", .str n]) np2 _ _ hd
          refine ⟨_, rfl, _, d, _, _, _, true, rfl, hi5, rfl, hd2, rfl, fun u r => r, k3, _, rfl, ?_⟩
          refine iteT ⟨_, rfl, _, d, _, _, _, false, rfl, hi5, rfl, hd2, rfl, fun u r => r, k4, _, rfl, ?_⟩
          refine ⟨p2, rfl, s7.trans (same_upd np2), ?_⟩
          unfold dueD
          rw [hk]
          exact .tup (SqT.of upd_same) (.cons (.str _) (.cons (.str _) .nil))
      · rintro σ' H6 ⟨p, hσ, s6, hp⟩
        have d1 : H6 D = some (.lst (ws.map V.str)) := s6 _ _ (t3 _ _ hD)
        have d2 : H6 pk = some (.lst (ks.map V.str)) := s6 _ _ (t3 _ _ hK)
        have d3 : H6 h1 = some (.lst (ws.map V.str)) := s6 _ _ (t2 _ _ upd_same)
        have d4 : H6 h2 = some (.lst (ks.map V.str)) := s6 _ _ upd_same
        rw [hσ]
        refine ⟨_, rfl, _, rfl, ?_⟩
        refine iteT ⟨_, rfl, _, rfl, _, rfl, D, pk, ws, ks, rfl, SqL.of d1, SqL.of d2, by omega, fun p3 H8 s8 hp3 => ?_⟩
        have nbd := nb_due (ks := ks) hA
        have shp := shaped_of nbd (depth_due ks ws)
        have shs : ∀ {zs : List Str}, (∀ z ∈ zs, Asc z) → nb (dStrs zs) = true ∧ SeqAt.shaped (dStrs zs) = true := fun {zs} hz => ⟨nb_strs hz, shaped_of (nb_strs hz) (by simp only [PyData.depth]; have := depth_strs zs; omega)⟩
        refine ⟨_, _, Dp.keep s8 _ _ hp, hp3, shp, shp, _, rfl, ?_⟩
        rw [eqv_self nbd]
        refine iteT ⟨_, rfl, _, rfl, _, _, .lst (SqL.of (s8 _ _ d3)) (dpall_strs _), .lst (SqL.of (s8 _ _ d1)) (dpall_strs _), (shs hA).2, (shs hA).2, _, rfl, ?_⟩
        rw [eqv_self (shs hA).1]
        refine iteT ⟨_, rfl, _, rfl, _, _, .lst (SqL.of (s8 _ _ d4)) (dpall_strs _), .lst (SqL.of (s8 _ _ d2)) (dpall_strs _), (shs hA2).2, (shs hA2).2, ?_⟩
        rw [eqv_self (shs hA2).1]
        exact q _ (((sm.same t3).same s6).same s8)
abbrev s_law : Stmt := topS 16
theorem sc_law : FnScope ["_law_script", "_law_box_here", "_law_turn"] ["_law_script"] (defScope s_law) := ⟨rfl, rfl, rfl, by decide +kernel, rfl, by decide +kernel, by decide +kernel⟩
def spLaw (K : PySem.W.Frag) : Sp := fun vs H Q _ => ∃ (a : Addr) (ns : List Int), vs = [.ref a] ∧ SqL K H a (ns.map V.int) ∧ ns.length ≤ 63 ∧ ∀ H', Q (.bl true) H'
theorem ok_law {k : Nat} (B : Bl mg) (D__law_box : Def P w K mg base CX0 k "_law_box" ["_law_script"] (spBox K)) (D__law_number : Def P w K mg base CX0 k "_law_number" ["_law_box_here"] spNum) (D__law_names : Def P w K mg base CX0 k "_law_names" ["_law_box_here"] spNum)
    {f : Addr} {fd : FuncData} (F : Fun K "law" "law" s_law f fd) : FnOk P w K mg base CX0 (k + 1) f fd ["_law_script"] (spLaw K) := by
  refine F.ok sc_law (fun vs H Q E h => ?_) (fun cdv A outer s H vs Q E hr h => ?_)
  · obtain ⟨a, ns, rfl, _⟩ := h
    rfl
  · obtain ⟨a, ns, rfl, hS, hlen, q⟩ := h
    refine ⟨_, (pss_cons (ps_asg (pe_def D__law_box hr pass0 (pa_cons (pv 0) pa_nil)) (pg_name (i := 1) sc_law.nd rfl (Or.inl rfl)))
 (pss_cons (ps_for PassesOwn.never rfl (pi_range1 (by rfl) B.range (pa_cons pe_int pa_nil)) (pg_name (i := 2) sc_law.nd rfl (Or.inl rfl)) (pss_one (ps_if (pt_not (pt_val (pe_def D__law_number hr pass0 (pa_cons (pv 1) pa_nil)))) (pss_one (ps_ret pe_bl)) pss_nil)))
 (pss_cons (ps_for PassesOwn.never rfl (pi_range1 (by rfl) B.range (pa_cons pe_int pa_nil)) (pg_name (i := 2) sc_law.nd rfl (Or.inl rfl)) (pss_one (ps_if (pt_not (pt_val (pe_def D__law_names hr pass0 (pa_cons (pv 1) pa_nil)))) (pss_one (ps_ret pe_bl)) pss_nil)))
 (pss_one (ps_ret pe_bl))))), ?_⟩
    refine ⟨_, rfl, a, ns, rfl, hS, hlen, fun b l H1 nb s1 hb => ?_⟩
    refine ⟨6, rfl, by decide, by decide, for_range (lo := 0) (n := 6) (fun i σ H' => ∃ y, σ = [some (.ref a), some (.ref b), y] ∧ Box H' b l) ⟨none, rfl, hb⟩ ?_ ?_⟩
    · rintro i σ H' hi ⟨y, rfl, hb'⟩
      refine ⟨_, rfl, b, l, rfl, hb', fun H2 s2 => ⟨_, rfl, ?_⟩⟩
      exact iteF ⟨_, rfl, s2.b1⟩
    · rintro σ H' ⟨y, rfl, hb'⟩
      refine ⟨4, rfl, by decide, by decide, for_range (lo := 0) (n := 4) (fun i σ H' => ∃ y, σ = [some (.ref a), some (.ref b), y] ∧ Box H' b l) ⟨_, rfl, hb'⟩ ?_ ?_⟩
      · rintro i σ H' hi ⟨y, rfl, hb'⟩
        refine ⟨_, rfl, b, l, rfl, hb', fun H2 s2 => ⟨_, rfl, ?_⟩⟩
        exact iteF ⟨_, rfl, s2.b1⟩
      · rintro σ H' ⟨y, rfl, hb'⟩
        exact q H'
end

/-! ## the end -/
theorem all_mk {P : Program} {w : World} {K : PySem.W.Frag} {h : Heap} {mg : Str → Option Value} {fa : Addr} (X : K.In h) (G : h.Ns mainGlobals mg) (hfa : mg "law" = some (.ref fa)) (top : (P.main.scope.names.lookup ("super" : Str)).isSome = false)
    {f_check_number : Addr} {od_check_number an_check_number : Option Addr} {sl_check_number : Array (Option Value)} {oc_check_number kV_check_number dc_check_number pm_check_number cd_check_number ct_check_number : Value}
    {f_check_names : Addr} {od_check_names an_check_names : Option Addr} {sl_check_names : Array (Option Value)} {oc_check_names kV_check_names dc_check_names pm_check_names cd_check_names ct_check_names : Value}
    {f__law_box : Addr} {od__law_box an__law_box : Option Addr} {sl__law_box : Array (Option Value)} {oc__law_box kV__law_box dc__law_box pm__law_box cd__law_box ct__law_box : Value}
    {f__law_next : Addr} {od__law_next an__law_next : Option Addr} {sl__law_next : Array (Option Value)} {oc__law_next kV__law_next dc__law_next pm__law_next cd__law_next ct__law_next : Value}
    {f__law_word : Addr} {od__law_word an__law_word : Option Addr} {sl__law_word : Array (Option Value)} {oc__law_word kV__law_word dc__law_word pm__law_word cd__law_word ct__law_word : Value}
    {f__law_words : Addr} {od__law_words an__law_words : Option Addr} {sl__law_words : Array (Option Value)} {oc__law_words kV__law_words dc__law_words pm__law_words cd__law_words ct__law_words : Value}
    {f__law_number : Addr} {od__law_number an__law_number : Option Addr} {sl__law_number : Array (Option Value)} {oc__law_number kV__law_number dc__law_number pm__law_number cd__law_number ct__law_number : Value}
    {f__law_due : Addr} {od__law_due an__law_due : Option Addr} {sl__law_due : Array (Option Value)} {oc__law_due kV__law_due dc__law_due pm__law_due cd__law_due ct__law_due : Value}
    {f__law_names : Addr} {od__law_names an__law_names : Option Addr} {sl__law_names : Array (Option Value)} {oc__law_names kV__law_names dc__law_names pm__law_names cd__law_names ct__law_names : Value}
    {f_law : Addr} {od_law an_law : Option Addr} {sl_law : Array (Option Value)} {oc_law kV_law dc_law pm_law cd_law ct_law : Value}
    {C_HeldError : Addr}
    {C_BadNumber fI_BadNumber N_BadNumber cda_BadNumber cc_BadNumber : Addr} {nm_BadNumber q_BadNumber file_BadNumber : Str} {bs_BadNumber bm_BadNumber sub_BadNumber : List Value} {sn_BadNumber : List Str} {ab_BadNumber : Bool} {col_BadNumber : Option Bool} {dd_BadNumber od_BadNumber an_BadNumber cdd_BadNumber cld_BadNumber : Option Addr} {m0_BadNumber m1_BadNumber m2_BadNumber m3_BadNumber m5_BadNumber : Option Value} {oc_BadNumber kV_BadNumber dc_BadNumber pm_BadNumber ct_BadNumber ccl_BadNumber cl_BadNumber : Value} {sl_BadNumber ccs_BadNumber csl_BadNumber : Array (Option Value)} {vs_BadNumber : Array Value} {tf_BadNumber : Tok}
    {C_UnknownName fI_UnknownName N_UnknownName cda_UnknownName cc_UnknownName : Addr} {nm_UnknownName q_UnknownName file_UnknownName : Str} {bs_UnknownName bm_UnknownName sub_UnknownName : List Value} {sn_UnknownName : List Str} {ab_UnknownName : Bool} {col_UnknownName : Option Bool} {dd_UnknownName od_UnknownName an_UnknownName cdd_UnknownName cld_UnknownName : Option Addr} {m0_UnknownName m1_UnknownName m2_UnknownName m3_UnknownName m5_UnknownName : Option Value} {oc_UnknownName kV_UnknownName dc_UnknownName pm_UnknownName ct_UnknownName ccl_UnknownName cl_UnknownName : Value} {sl_UnknownName ccs_UnknownName csl_UnknownName : Array (Option Value)} {vs_UnknownName : Array Value} {tf_UnknownName : Tok}
    {C_DoubleName fI_DoubleName N_DoubleName cda_DoubleName cc_DoubleName : Addr} {nm_DoubleName q_DoubleName file_DoubleName : Str} {bs_DoubleName bm_DoubleName sub_DoubleName : List Value} {sn_DoubleName : List Str} {ab_DoubleName : Bool} {col_DoubleName : Option Bool} {dd_DoubleName od_DoubleName an_DoubleName cdd_DoubleName cld_DoubleName : Option Addr} {m0_DoubleName m1_DoubleName m2_DoubleName m3_DoubleName m5_DoubleName : Option Value} {oc_DoubleName kV_DoubleName dc_DoubleName pm_DoubleName ct_DoubleName ccl_DoubleName cl_DoubleName : Value} {sl_DoubleName ccs_DoubleName csl_DoubleName : Array (Option Value)} {vs_DoubleName : Array Value} {tf_DoubleName : Tok}
    (z_len : PySem.W.nsIn K mainGlobals "len" = some none)
    (z_range : PySem.W.nsIn K mainGlobals "range" = some none)
    (z_abs : PySem.W.nsIn K mainGlobals "abs" = some none)
    (z_sum : PySem.W.nsIn K mainGlobals "sum" = some none)
    (z_sorted : PySem.W.nsIn K mainGlobals "sorted" = some none)
    (z_isinstance : PySem.W.nsIn K mainGlobals "isinstance" = some none)
    (z_zip : PySem.W.nsIn K mainGlobals "zip" = some none)
    (z_enumerate : PySem.W.nsIn K mainGlobals "enumerate" = some none)
    (z_reversed : PySem.W.nsIn K mainGlobals "reversed" = some none)
    (z_int : PySem.W.nsIn K mainGlobals "int" = some none)
    (z_str : PySem.W.nsIn K mainGlobals "str" = some none)
    (z_list : PySem.W.nsIn K mainGlobals "list" = some none)
    (z_tuple : PySem.W.nsIn K mainGlobals "tuple" = some none)
    (z_bool : PySem.W.nsIn K mainGlobals "bool" = some none)
    (z_all : PySem.W.nsIn K mainGlobals "all" = some none)
    (z_any : PySem.W.nsIn K mainGlobals "any" = some none)
    (z_ValueError : PySem.W.nsIn K mainGlobals "ValueError" = some none)
    (z_super : PySem.W.nsIn K mainGlobals "super" = some none)
    (a_check_number : PySem.W.nsIn K mainGlobals "check_number" = some (some (.ref f_check_number)))
    (l_check_number : K.lookup f_check_number = some ⟨oc_check_number, od_check_number, .func (PySem.W.fnOf "check_number" "check_number" (defArgs s_check_number) (defBody s_check_number) (defScope s_check_number) .none kV_check_number dc_check_number pm_check_number an_check_number cd_check_number ct_check_number), sl_check_number⟩)
    (c_check_number : PySem.W.codeIn K cd_check_number "check_number" = true)
    (k_check_number : PySem.W.keepIn K (.ref f_check_number) = true)
    (a_check_names : PySem.W.nsIn K mainGlobals "check_names" = some (some (.ref f_check_names)))
    (l_check_names : K.lookup f_check_names = some ⟨oc_check_names, od_check_names, .func (PySem.W.fnOf "check_names" "check_names" (defArgs s_check_names) (defBody s_check_names) (defScope s_check_names) .none kV_check_names dc_check_names pm_check_names an_check_names cd_check_names ct_check_names), sl_check_names⟩)
    (c_check_names : PySem.W.codeIn K cd_check_names "check_names" = true)
    (k_check_names : PySem.W.keepIn K (.ref f_check_names) = true)
    (a__law_box : PySem.W.nsIn K mainGlobals "_law_box" = some (some (.ref f__law_box)))
    (l__law_box : K.lookup f__law_box = some ⟨oc__law_box, od__law_box, .func (PySem.W.fnOf "_law_box" "_law_box" (defArgs s__law_box) (defBody s__law_box) (defScope s__law_box) .none kV__law_box dc__law_box pm__law_box an__law_box cd__law_box ct__law_box), sl__law_box⟩)
    (c__law_box : PySem.W.codeIn K cd__law_box "_law_box" = true)
    (k__law_box : PySem.W.keepIn K (.ref f__law_box) = true)
    (a__law_next : PySem.W.nsIn K mainGlobals "_law_next" = some (some (.ref f__law_next)))
    (l__law_next : K.lookup f__law_next = some ⟨oc__law_next, od__law_next, .func (PySem.W.fnOf "_law_next" "_law_next" (defArgs s__law_next) (defBody s__law_next) (defScope s__law_next) .none kV__law_next dc__law_next pm__law_next an__law_next cd__law_next ct__law_next), sl__law_next⟩)
    (c__law_next : PySem.W.codeIn K cd__law_next "_law_next" = true)
    (k__law_next : PySem.W.keepIn K (.ref f__law_next) = true)
    (a__law_word : PySem.W.nsIn K mainGlobals "_law_word" = some (some (.ref f__law_word)))
    (l__law_word : K.lookup f__law_word = some ⟨oc__law_word, od__law_word, .func (PySem.W.fnOf "_law_word" "_law_word" (defArgs s__law_word) (defBody s__law_word) (defScope s__law_word) .none kV__law_word dc__law_word pm__law_word an__law_word cd__law_word ct__law_word), sl__law_word⟩)
    (c__law_word : PySem.W.codeIn K cd__law_word "_law_word" = true)
    (k__law_word : PySem.W.keepIn K (.ref f__law_word) = true)
    (a__law_words : PySem.W.nsIn K mainGlobals "_law_words" = some (some (.ref f__law_words)))
    (l__law_words : K.lookup f__law_words = some ⟨oc__law_words, od__law_words, .func (PySem.W.fnOf "_law_words" "_law_words" (defArgs s__law_words) (defBody s__law_words) (defScope s__law_words) .none kV__law_words dc__law_words pm__law_words an__law_words cd__law_words ct__law_words), sl__law_words⟩)
    (c__law_words : PySem.W.codeIn K cd__law_words "_law_words" = true)
    (k__law_words : PySem.W.keepIn K (.ref f__law_words) = true)
    (a__law_number : PySem.W.nsIn K mainGlobals "_law_number" = some (some (.ref f__law_number)))
    (l__law_number : K.lookup f__law_number = some ⟨oc__law_number, od__law_number, .func (PySem.W.fnOf "_law_number" "_law_number" (defArgs s__law_number) (defBody s__law_number) (defScope s__law_number) .none kV__law_number dc__law_number pm__law_number an__law_number cd__law_number ct__law_number), sl__law_number⟩)
    (c__law_number : PySem.W.codeIn K cd__law_number "_law_number" = true)
    (k__law_number : PySem.W.keepIn K (.ref f__law_number) = true)
    (a__law_due : PySem.W.nsIn K mainGlobals "_law_due" = some (some (.ref f__law_due)))
    (l__law_due : K.lookup f__law_due = some ⟨oc__law_due, od__law_due, .func (PySem.W.fnOf "_law_due" "_law_due" (defArgs s__law_due) (defBody s__law_due) (defScope s__law_due) .none kV__law_due dc__law_due pm__law_due an__law_due cd__law_due ct__law_due), sl__law_due⟩)
    (c__law_due : PySem.W.codeIn K cd__law_due "_law_due" = true)
    (k__law_due : PySem.W.keepIn K (.ref f__law_due) = true)
    (a__law_names : PySem.W.nsIn K mainGlobals "_law_names" = some (some (.ref f__law_names)))
    (l__law_names : K.lookup f__law_names = some ⟨oc__law_names, od__law_names, .func (PySem.W.fnOf "_law_names" "_law_names" (defArgs s__law_names) (defBody s__law_names) (defScope s__law_names) .none kV__law_names dc__law_names pm__law_names an__law_names cd__law_names ct__law_names), sl__law_names⟩)
    (c__law_names : PySem.W.codeIn K cd__law_names "_law_names" = true)
    (k__law_names : PySem.W.keepIn K (.ref f__law_names) = true)
    (a_law : PySem.W.nsIn K mainGlobals "law" = some (some (.ref f_law)))
    (l_law : K.lookup f_law = some ⟨oc_law, od_law, .func (PySem.W.fnOf "law" "law" (defArgs s_law) (defBody s_law) (defScope s_law) .none kV_law dc_law pm_law an_law cd_law ct_law), sl_law⟩)
    (c_law : PySem.W.codeIn K cd_law "law" = true)
    (k_law : PySem.W.keepIn K (.ref f_law) = true)
    (aC_HeldError : PySem.W.nsIn K mainGlobals "HeldError" = some (some (.ref C_HeldError)))
    (e_opq : PySem.W.nsIn K cStatics "thirdparty.any" = some none)
    (e_cg : PySem.W.specialIn K (.builtin "object.__class__") "__get__" = some (some (.builtin "getset_descriptor.__get__")))
    (e_ct : PySem.W.takesIn K (.builtin "object.__class__") = some true)
    (aC_BadNumber : PySem.W.nsIn K mainGlobals "BadNumber" = some (some (.ref C_BadNumber)))
    (xL_BadNumber : K.lookup C_BadNumber = some (excClassObj nm_BadNumber q_BadNumber C_BadNumber N_BadNumber bs_BadNumber bm_BadNumber true sn_BadNumber sub_BadNumber ab_BadNumber col_BadNumber dd_BadNumber m0_BadNumber m1_BadNumber m2_BadNumber m3_BadNumber m5_BadNumber "ValueError.__new__"))
    (bm_BadNumber : PySem.HandSPX.refsVE bm_BadNumber = true)
    (sa_BadNumber : PySem.W.findIn K (.ref C_BadNumber) "__setattr__" = some (some (.builtin "object.__setattr__")))
    (ga_BadNumber : PySem.W.findIn K (.ref C_BadNumber) "__getattribute__" = some (some (.builtin "BaseException.__getattribute__")))
    (gg_BadNumber : PySem.W.findIn K (.ref C_BadNumber) "__getattr__" = some none)
    (no_number_BadNumber : PySem.W.findIn K (.ref C_BadNumber) "number" = some none)
    (iC_BadNumber : PySem.W.findIn K (.ref C_BadNumber) "__init__" = some (some (.ref fI_BadNumber)))
    (tI_BadNumber : PySem.W.typeIn K (.ref fI_BadNumber) = some (.type "function"))
    (kC_BadNumber : PySem.W.keepIn K (.ref C_BadNumber) = true)
    (ex_BadNumber : PySem.W.subIn K (.ref C_BadNumber) (.type "BaseException") = some true)
    (ve_BadNumber : PySem.W.subIn K (.ref C_BadNumber) (.type "ValueError") = some true)
    (ty_BadNumber : PySem.W.typeIn K (.ref C_BadNumber) = some (.type "type"))
    (hd_BadNumber : PySem.W.hasDictIn K C_BadNumber = true)
    (sup_BadNumber : PySem.W.ks_superIn K C_BadNumber C_BadNumber "__init__" = some (some (.builtin "ValueError.__init__")))
    (mro_BadNumber : PySem.W.mroIn K C_BadNumber (.ref C_BadNumber) = some true)
    (su_BadNumber : PySem.W.subIn K (.ref C_BadNumber) (.ref C_BadNumber) = some true)
    (ca_BadNumber : PySem.W.findIn K (.ref C_BadNumber) "__class__" = some (some (.builtin "object.__class__")))
    (mo_BadNumber : PySem.W.mroIn K C_BadNumber (.type "object") = some true)
    (l_BadNumber : K.lookup fI_BadNumber = some ⟨oc_BadNumber, od_BadNumber, .func (PySem.W.ksFn "__init__" "BadNumber.__init__" (defArgs (inClass (topS 2) 0)) (defBody (inClass (topS 2) 0)) (defScope (inClass (topS 2) 0)) .none kV_BadNumber dc_BadNumber pm_BadNumber an_BadNumber (.ref cda_BadNumber) ct_BadNumber cc_BadNumber), sl_BadNumber⟩)
    (c_BadNumber : PySem.W.codeIn K (.ref cda_BadNumber) "BadNumber.__init__" = true)
    (lc_BadNumber : K.lookup cda_BadNumber = some ⟨ccl_BadNumber, cdd_BadNumber, .fields vs_BadNumber, ccs_BadNumber⟩)
    (v2_BadNumber : vs_BadNumber[2]? = some (.str file_BadNumber tf_BadNumber))
    (fl_BadNumber : ((P.main.file : Str) == file_BadNumber) = true)
    (cc_BadNumber : K.lookup cc_BadNumber = some ⟨cl_BadNumber, cld_BadNumber, .cell (some (.ref C_BadNumber)), csl_BadNumber⟩)
    (aC_UnknownName : PySem.W.nsIn K mainGlobals "UnknownName" = some (some (.ref C_UnknownName)))
    (xL_UnknownName : K.lookup C_UnknownName = some (excClassObj nm_UnknownName q_UnknownName C_UnknownName N_UnknownName bs_UnknownName bm_UnknownName true sn_UnknownName sub_UnknownName ab_UnknownName col_UnknownName dd_UnknownName m0_UnknownName m1_UnknownName m2_UnknownName m3_UnknownName m5_UnknownName "ValueError.__new__"))
    (bm_UnknownName : PySem.HandSPX.refsVE bm_UnknownName = true)
    (sa_UnknownName : PySem.W.findIn K (.ref C_UnknownName) "__setattr__" = some (some (.builtin "object.__setattr__")))
    (ga_UnknownName : PySem.W.findIn K (.ref C_UnknownName) "__getattribute__" = some (some (.builtin "BaseException.__getattribute__")))
    (gg_UnknownName : PySem.W.findIn K (.ref C_UnknownName) "__getattr__" = some none)
    (no_name_UnknownName : PySem.W.findIn K (.ref C_UnknownName) "name" = some none)
    (iC_UnknownName : PySem.W.findIn K (.ref C_UnknownName) "__init__" = some (some (.ref fI_UnknownName)))
    (tI_UnknownName : PySem.W.typeIn K (.ref fI_UnknownName) = some (.type "function"))
    (kC_UnknownName : PySem.W.keepIn K (.ref C_UnknownName) = true)
    (ex_UnknownName : PySem.W.subIn K (.ref C_UnknownName) (.type "BaseException") = some true)
    (ve_UnknownName : PySem.W.subIn K (.ref C_UnknownName) (.type "ValueError") = some true)
    (ty_UnknownName : PySem.W.typeIn K (.ref C_UnknownName) = some (.type "type"))
    (hd_UnknownName : PySem.W.hasDictIn K C_UnknownName = true)
    (sup_UnknownName : PySem.W.ks_superIn K C_UnknownName C_UnknownName "__init__" = some (some (.builtin "ValueError.__init__")))
    (mro_UnknownName : PySem.W.mroIn K C_UnknownName (.ref C_UnknownName) = some true)
    (su_UnknownName : PySem.W.subIn K (.ref C_UnknownName) (.ref C_UnknownName) = some true)
    (ca_UnknownName : PySem.W.findIn K (.ref C_UnknownName) "__class__" = some (some (.builtin "object.__class__")))
    (mo_UnknownName : PySem.W.mroIn K C_UnknownName (.type "object") = some true)
    (l_UnknownName : K.lookup fI_UnknownName = some ⟨oc_UnknownName, od_UnknownName, .func (PySem.W.ksFn "__init__" "UnknownName.__init__" (defArgs (inClass (topS 3) 0)) (defBody (inClass (topS 3) 0)) (defScope (inClass (topS 3) 0)) .none kV_UnknownName dc_UnknownName pm_UnknownName an_UnknownName (.ref cda_UnknownName) ct_UnknownName cc_UnknownName), sl_UnknownName⟩)
    (c_UnknownName : PySem.W.codeIn K (.ref cda_UnknownName) "UnknownName.__init__" = true)
    (lc_UnknownName : K.lookup cda_UnknownName = some ⟨ccl_UnknownName, cdd_UnknownName, .fields vs_UnknownName, ccs_UnknownName⟩)
    (v2_UnknownName : vs_UnknownName[2]? = some (.str file_UnknownName tf_UnknownName))
    (fl_UnknownName : ((P.main.file : Str) == file_UnknownName) = true)
    (cc_UnknownName : K.lookup cc_UnknownName = some ⟨cl_UnknownName, cld_UnknownName, .cell (some (.ref C_UnknownName)), csl_UnknownName⟩)
    (aC_DoubleName : PySem.W.nsIn K mainGlobals "DoubleName" = some (some (.ref C_DoubleName)))
    (xL_DoubleName : K.lookup C_DoubleName = some (excClassObj nm_DoubleName q_DoubleName C_DoubleName N_DoubleName bs_DoubleName bm_DoubleName true sn_DoubleName sub_DoubleName ab_DoubleName col_DoubleName dd_DoubleName m0_DoubleName m1_DoubleName m2_DoubleName m3_DoubleName m5_DoubleName "ValueError.__new__"))
    (bm_DoubleName : PySem.HandSPX.refsVE bm_DoubleName = true)
    (sa_DoubleName : PySem.W.findIn K (.ref C_DoubleName) "__setattr__" = some (some (.builtin "object.__setattr__")))
    (ga_DoubleName : PySem.W.findIn K (.ref C_DoubleName) "__getattribute__" = some (some (.builtin "BaseException.__getattribute__")))
    (gg_DoubleName : PySem.W.findIn K (.ref C_DoubleName) "__getattr__" = some none)
    (no_name_DoubleName : PySem.W.findIn K (.ref C_DoubleName) "name" = some none)
    (iC_DoubleName : PySem.W.findIn K (.ref C_DoubleName) "__init__" = some (some (.ref fI_DoubleName)))
    (tI_DoubleName : PySem.W.typeIn K (.ref fI_DoubleName) = some (.type "function"))
    (kC_DoubleName : PySem.W.keepIn K (.ref C_DoubleName) = true)
    (ex_DoubleName : PySem.W.subIn K (.ref C_DoubleName) (.type "BaseException") = some true)
    (ve_DoubleName : PySem.W.subIn K (.ref C_DoubleName) (.type "ValueError") = some true)
    (ty_DoubleName : PySem.W.typeIn K (.ref C_DoubleName) = some (.type "type"))
    (hd_DoubleName : PySem.W.hasDictIn K C_DoubleName = true)
    (sup_DoubleName : PySem.W.ks_superIn K C_DoubleName C_DoubleName "__init__" = some (some (.builtin "ValueError.__init__")))
    (mro_DoubleName : PySem.W.mroIn K C_DoubleName (.ref C_DoubleName) = some true)
    (su_DoubleName : PySem.W.subIn K (.ref C_DoubleName) (.ref C_DoubleName) = some true)
    (ca_DoubleName : PySem.W.findIn K (.ref C_DoubleName) "__class__" = some (some (.builtin "object.__class__")))
    (mo_DoubleName : PySem.W.mroIn K C_DoubleName (.type "object") = some true)
    (l_DoubleName : K.lookup fI_DoubleName = some ⟨oc_DoubleName, od_DoubleName, .func (PySem.W.ksFn "__init__" "DoubleName.__init__" (defArgs (inClass (topS 4) 0)) (defBody (inClass (topS 4) 0)) (defScope (inClass (topS 4) 0)) .none kV_DoubleName dc_DoubleName pm_DoubleName an_DoubleName (.ref cda_DoubleName) ct_DoubleName cc_DoubleName), sl_DoubleName⟩)
    (c_DoubleName : PySem.W.codeIn K (.ref cda_DoubleName) "DoubleName.__init__" = true)
    (lc_DoubleName : K.lookup cda_DoubleName = some ⟨ccl_DoubleName, cdd_DoubleName, .fields vs_DoubleName, ccs_DoubleName⟩)
    (v2_DoubleName : vs_DoubleName[2]? = some (.str file_DoubleName tf_DoubleName))
    (fl_DoubleName : ((P.main.file : Str) == file_DoubleName) = true)
    (cc_DoubleName : K.lookup cc_DoubleName = some ⟨cl_DoubleName, cld_DoubleName, .cell (some (.ref C_DoubleName)), csl_DoubleName⟩)
    (k1 : PySem.W.kitOne K (.ref C_BadNumber) (.ref C_HeldError) = some true)
    (k2 : PySem.W.kitOne K (.ref C_BadNumber) (.ref C_DoubleName) = some false)
    (k3 : PySem.W.kitOne K (.ref C_BadNumber) (.ref C_UnknownName) = some false)
    (k4 : PySem.W.kitOne K (.ref C_UnknownName) (.ref C_HeldError) = some true)
    (k5 : PySem.W.kitOne K (.ref C_UnknownName) (.ref C_DoubleName) = some false)
    (k6 : PySem.W.kitOne K (.ref C_DoubleName) (.ref C_HeldError) = some true)
    (k7 : PySem.W.kitOne K (.ref C_DoubleName) (.ref C_UnknownName) = some false)
    (x1 : PySem.W.exmOne K (.ref C_DoubleName) (.ref C_UnknownName) = some false) :
    ∃ fd : FuncData, (∀ (s : Shared) (v : Value), BindsTo s fd ⟨[v], []⟩ [("_law_script", v)]) ∧ ∀ base : Heap, K.In base → base.Ns mainGlobals mg → FnOk P w K mg base CX0 6 fa fd ["_law_script"] (spLaw K) := by
  have e := hfa.symm.trans (PySem.W.mg_of X G a_law)
  cases e
  have B : Bl mg := ⟨PySem.W.mg_none_of X G z_len, PySem.W.mg_none_of X G z_range, PySem.W.mg_none_of X G z_abs, PySem.W.mg_none_of X G z_sum, PySem.W.mg_none_of X G z_sorted, PySem.W.mg_none_of X G z_isinstance, PySem.W.mg_none_of X G z_zip, PySem.W.mg_none_of X G z_enumerate, PySem.W.mg_none_of X G z_reversed, PySem.W.mg_none_of X G z_int, PySem.W.mg_none_of X G z_str, PySem.W.mg_none_of X G z_list, PySem.W.mg_none_of X G z_tuple, PySem.W.mg_none_of X G z_bool, PySem.W.mg_none_of X G z_all, PySem.W.mg_none_of X G z_any, PySem.W.mg_none_of X G z_ValueError⟩
  have F_check_number : Src K mg "check_number" s_check_number ["number", "least", "most"] := src_mk X G a_check_number l_check_number c_check_number k_check_number (fun _ _ _ _ _ _ us hl => match us, hl with | [_, _, _], _ => rfl)
  have F_check_names : Src K mg "check_names" s_check_names ["names", "known"] := src_mk X G a_check_names l_check_names c_check_names k_check_names (fun _ _ _ _ _ _ us hl => match us, hl with | [_, _], _ => rfl)
  have F__law_box : Src K mg "_law_box" s__law_box ["_law_script"] := src_mk X G a__law_box l__law_box c__law_box k__law_box (fun _ _ _ _ _ _ us hl => match us, hl with | [_], _ => rfl)
  have F__law_next : Src K mg "_law_next" s__law_next ["_law_box_here", "_law_many"] := src_mk X G a__law_next l__law_next c__law_next k__law_next (fun _ _ _ _ _ _ us hl => match us, hl with | [_, _], _ => rfl)
  have F__law_word : Src K mg "_law_word" s__law_word ["_law_box_here"] := src_mk X G a__law_word l__law_word c__law_word k__law_word (fun _ _ _ _ _ _ us hl => match us, hl with | [_], _ => rfl)
  have F__law_words : Src K mg "_law_words" s__law_words ["_law_box_here", "_law_many"] := src_mk X G a__law_words l__law_words c__law_words k__law_words (fun _ _ _ _ _ _ us hl => match us, hl with | [_, _], _ => rfl)
  have F__law_number : Src K mg "_law_number" s__law_number ["_law_box_here"] := src_mk X G a__law_number l__law_number c__law_number k__law_number (fun _ _ _ _ _ _ us hl => match us, hl with | [_], _ => rfl)
  have F__law_due : Src K mg "_law_due" s__law_due ["_law_names_here", "_law_known"] := src_mk X G a__law_due l__law_due c__law_due k__law_due (fun _ _ _ _ _ _ us hl => match us, hl with | [_, _], _ => rfl)
  have F__law_names : Src K mg "_law_names" s__law_names ["_law_box_here"] := src_mk X G a__law_names l__law_names c__law_names k__law_names (fun _ _ _ _ _ _ us hl => match us, hl with | [_], _ => rfl)
  have g_HeldError := glo_ref X G aC_HeldError
  have nn_BadNumber : ∀ f ∈ (["number"] : List Str), PySem.W.findIn K (.ref C_BadNumber) f = some none := fun f hf => by
      simp only [List.mem_cons, List.not_mem_nil, or_false] at hf
      rcases hf with rfl
      · exact no_number_BadNumber
  have X_BadNumber : ErrTxt P K mg false "BadNumber" C_BadNumber fI_BadNumber ["number"] := err_mk (st := inClass (topS 2) 0) (fp := [("number", _, _, _, _)]) X G aC_BadNumber z_super xL_BadNumber bm_BadNumber sa_BadNumber ga_BadNumber gg_BadNumber nn_BadNumber
    iC_BadNumber tI_BadNumber kC_BadNumber ex_BadNumber ve_BadNumber ty_BadNumber hd_BadNumber sup_BadNumber mro_BadNumber su_BadNumber ca_BadNumber e_cg e_ct mo_BadNumber e_opq top l_BadNumber c_BadNumber lc_BadNumber v2_BadNumber fl_BadNumber cc_BadNumber rfl rfl rfl rfl (by decide +kernel) (by decide +kernel) (by decide +kernel) (by decide +kernel) (by decide +kernel) (by decide +kernel) (by decide +kernel) rfl rfl rfl
    (fun _ _ _ _ _ _ _ s x us hl => match us, hl with | [_], _ => .of_eq rfl) (fun x us hl => match us, hl with | [_], _ => ⟨by rfl, .cons (by rfl) (.nil)⟩) (.inl ⟨rfl, _, _, _, rfl⟩)
  have nn_UnknownName : ∀ f ∈ (["name"] : List Str), PySem.W.findIn K (.ref C_UnknownName) f = some none := fun f hf => by
      simp only [List.mem_cons, List.not_mem_nil, or_false] at hf
      rcases hf with rfl
      · exact no_name_UnknownName
  have X_UnknownName : ErrTxt P K mg false "UnknownName" C_UnknownName fI_UnknownName ["name"] := err_mk (st := inClass (topS 3) 0) (fp := [("name", _, _, _, _)]) X G aC_UnknownName z_super xL_UnknownName bm_UnknownName sa_UnknownName ga_UnknownName gg_UnknownName nn_UnknownName
    iC_UnknownName tI_UnknownName kC_UnknownName ex_UnknownName ve_UnknownName ty_UnknownName hd_UnknownName sup_UnknownName mro_UnknownName su_UnknownName ca_UnknownName e_cg e_ct mo_UnknownName e_opq top l_UnknownName c_UnknownName lc_UnknownName v2_UnknownName fl_UnknownName cc_UnknownName rfl rfl rfl rfl (by decide +kernel) (by decide +kernel) (by decide +kernel) (by decide +kernel) (by decide +kernel) (by decide +kernel) (by decide +kernel) rfl rfl rfl
    (fun _ _ _ _ _ _ _ s x us hl => match us, hl with | [_], _ => .of_eq rfl) (fun x us hl => match us, hl with | [_], _ => ⟨by rfl, .cons (by rfl) (.nil)⟩) (.inl ⟨rfl, _, _, _, rfl⟩)
  have nn_DoubleName : ∀ f ∈ (["name"] : List Str), PySem.W.findIn K (.ref C_DoubleName) f = some none := fun f hf => by
      simp only [List.mem_cons, List.not_mem_nil, or_false] at hf
      rcases hf with rfl
      · exact no_name_DoubleName
  have X_DoubleName : ErrTxt P K mg false "DoubleName" C_DoubleName fI_DoubleName ["name"] := err_mk (st := inClass (topS 4) 0) (fp := [("name", _, _, _, _)]) X G aC_DoubleName z_super xL_DoubleName bm_DoubleName sa_DoubleName ga_DoubleName gg_DoubleName nn_DoubleName
    iC_DoubleName tI_DoubleName kC_DoubleName ex_DoubleName ve_DoubleName ty_DoubleName hd_DoubleName sup_DoubleName mro_DoubleName su_DoubleName ca_DoubleName e_cg e_ct mo_DoubleName e_opq top l_DoubleName c_DoubleName lc_DoubleName v2_DoubleName fl_DoubleName cc_DoubleName rfl rfl rfl rfl (by decide +kernel) (by decide +kernel) (by decide +kernel) (by decide +kernel) (by decide +kernel) (by decide +kernel) (by decide +kernel) rfl rfl rfl
    (fun _ _ _ _ _ _ _ s x us hl => match us, hl with | [_], _ => .of_eq rfl) (fun x us hl => match us, hl with | [_], _ => ⟨by rfl, .cons (by rfl) (.nil)⟩) (.inl ⟨rfl, _, _, _, rfl⟩)
  refine ⟨PySem.W.fnOf "law" "law" (defArgs s_law) (defBody s_law) (defScope s_law) .none kV_law dc_law pm_law an_law cd_law ct_law, fun s v => .of_eq rfl, fun base hK hN => ?_⟩
  have g_BadNumber : Glo mg "BadNumber" (.ref C_BadNumber) := glo_ref X G aC_BadNumber
  have g_UnknownName : Glo mg "UnknownName" (.ref C_UnknownName) := glo_ref X G aC_UnknownName
  have g_DoubleName : Glo mg "DoubleName" (.ref C_DoubleName) := glo_ref X G aC_DoubleName
  have D1 : Def P w K mg base CX0 1 "_law_next" _ spNext := ok_next B F__law_next
  have D2 : Def P w K mg base CX0 1 "_law_box" _ (spBox K) := ok_box B F__law_box
  have D3 : Def P w K mg base CX0 2 "_law_word" _ spWord := ok_word B D1 F__law_word
  have D4 : Def P w K mg base CX0 3 "_law_words" _ spWords := ok_words B D3 F__law_words
  have D5 : Def P w K mg base (L2.CX P w) 3 "check_number" _ (spCheckNumber C_BadNumber) := ok_check_number X_BadNumber F_check_number
  have D6 : Def P w K mg base (L2.CX P w) 4 "check_names" _ (spCheckNames K C_UnknownName C_DoubleName) := ok_check_names B X_UnknownName X_DoubleName F_check_names
  have D7 : Def P w K mg base CX0 4 "_law_number" _ spNum := ok_num B X_BadNumber g_HeldError g_DoubleName g_UnknownName k1 k2 k3 (D1.mono (by decide)) D5 F__law_number
  have D8 : Def P w K mg base CX0 1 "_law_due" _ (spDue K) := ok_due B F__law_due
  have D9 : Def P w K mg base CX0 5 "_law_names" _ spNum := ok_nam B X_UnknownName X_DoubleName g_HeldError g_DoubleName g_UnknownName k4 k5 k6 k7 x1 (D1.mono (by decide)) (D3.mono (by decide)) (D4.mono (by decide)) D6 (D8.mono (by decide)) F__law_names
  exact ok_law B (D2.mono (by decide)) (D7.mono (by decide)) D9 (fun_mk l_law c_law k_law)
theorem walk {l : PySem.W.OpenLaw} {q : Program} {loose : List Str} {XP : (Str → Option Value) → Heap → Prop} {YP : World → Heap → Prop} {d : DefRec} {K : Params → PySem.W.Frag} (hn : l.most = some 63) (hdf : d.params.defaults = [])
    (hY : ∀ (w : World) (h : Heap), YP w h → (K w.params).In h)
    (F : ∀ (w : World) (mg : Str → Option Value) (fa : Addr) (h : Heap), (K w.params).In h → h.Ns mainGlobals mg → mg d.name = some (.ref fa) →
      ∃ fd : FuncData, (∀ (s : Shared) (u : Value), BindsTo s fd ⟨[u], []⟩ [("_law_script", u)]) ∧ ∀ base : Heap, (K w.params).In base → base.Ns mainGlobals mg → FnOk l.prog w (K w.params) mg base CX0 6 fa fd ["_law_script"] (spLaw (K w.params))) :
    PySem.W.WalkO q loose XP YP l.row.toRowW d [] (fun f vs => PySem.call f vs) :=
  L2.walk_of (n := 63) (k := 6) (x := "_law_script") (CX := fun _ => CX0) (sp := fun w => spLaw (K w.params)) hn (by decide) hdf ⟨rfl, by decide, by decide⟩ hY F (fun _ _ a ns hl _ hS => ⟨a, ns, rfl, hS, hl, fun _ => rfl⟩) fun _ _ _ _ _ z => z
end Held

open PySem PySem.W PyProof.Rows in
set_option maxRecDepth 100000 in
set_option maxHeartbeats 0 in
theorem PySem.Challenge.cw_heldsteps_k02_numbers_and_names_checked_holds : PySem.Challenge.rw_heldsteps_k02_numbers_and_names_checked.Holds := by
  w_on; o_law; k_head; (case hw => w_witness2)
  k_fill
  refine Held.walk (l := PySem.Challenge.rw_heldsteps_k02_numbers_and_names_checked) rfl rfl (fun w h Y => PySem.W.kIn_of Y) ?F
  case F =>
    intro w mg fa h KX G hmg
    refine' Held.all_mk KX G hmg (by decide +kernel) ?z_len ?z_range ?z_abs ?z_sum ?z_sorted ?z_isinstance ?z_zip ?z_enumerate ?z_reversed ?z_int ?z_str ?z_list ?z_tuple ?z_bool ?z_all ?z_any ?z_ValueError ?z_super ?a_check_number ?l_check_number ?c_check_number ?k_check_number ?a_check_names ?l_check_names ?c_check_names ?k_check_names ?a__law_box ?l__law_box ?c__law_box ?k__law_box ?a__law_next ?l__law_next ?c__law_next ?k__law_next ?a__law_word ?l__law_word ?c__law_word ?k__law_word ?a__law_words ?l__law_words ?c__law_words ?k__law_words ?a__law_number ?l__law_number ?c__law_number ?k__law_number ?a__law_due ?l__law_due ?c__law_due ?k__law_due ?a__law_names ?l__law_names ?c__law_names ?k__law_names ?a_law ?l_law ?c_law ?k_law ?aC_HeldError ?e_opq ?e_cg ?e_ct ?aC_BadNumber ?xL_BadNumber ?bm_BadNumber ?sa_BadNumber ?ga_BadNumber ?gg_BadNumber ?no_number_BadNumber ?iC_BadNumber ?tI_BadNumber ?kC_BadNumber ?ex_BadNumber ?ve_BadNumber ?ty_BadNumber ?hd_BadNumber ?sup_BadNumber ?mro_BadNumber ?su_BadNumber ?ca_BadNumber ?mo_BadNumber ?l_BadNumber ?c_BadNumber ?lc_BadNumber ?v2_BadNumber ?fl_BadNumber ?cc_BadNumber ?aC_UnknownName ?xL_UnknownName ?bm_UnknownName ?sa_UnknownName ?ga_UnknownName ?gg_UnknownName ?no_name_UnknownName ?iC_UnknownName ?tI_UnknownName ?kC_UnknownName ?ex_UnknownName ?ve_UnknownName ?ty_UnknownName ?hd_UnknownName ?sup_UnknownName ?mro_UnknownName ?su_UnknownName ?ca_UnknownName ?mo_UnknownName ?l_UnknownName ?c_UnknownName ?lc_UnknownName ?v2_UnknownName ?fl_UnknownName ?cc_UnknownName ?aC_DoubleName ?xL_DoubleName ?bm_DoubleName ?sa_DoubleName ?ga_DoubleName ?gg_DoubleName ?no_name_DoubleName ?iC_DoubleName ?tI_DoubleName ?kC_DoubleName ?ex_DoubleName ?ve_DoubleName ?ty_DoubleName ?hd_DoubleName ?sup_DoubleName ?mro_DoubleName ?su_DoubleName ?ca_DoubleName ?mo_DoubleName ?l_DoubleName ?c_DoubleName ?lc_DoubleName ?v2_DoubleName ?fl_DoubleName ?cc_DoubleName ?k1 ?k2 ?k3 ?k4 ?k5 ?k6 ?k7 ?x1
    (case z_len => k_is)
    (case z_range => k_is)
    (case z_abs => k_is)
    (case z_sum => k_is)
    (case z_sorted => k_is)
    (case z_isinstance => k_is)
    (case z_zip => k_is)
    (case z_enumerate => k_is)
    (case z_reversed => k_is)
    (case z_int => k_is)
    (case z_str => k_is)
    (case z_list => k_is)
    (case z_tuple => k_is)
    (case z_bool => k_is)
    (case z_all => k_is)
    (case z_any => k_is)
    (case z_ValueError => k_is)
    (case z_super => k_is)
    (case a_check_number => k_is)
    (case l_check_number => k_is)
    (case c_check_number => k_is)
    (case k_check_number => k_is)
    (case a_check_names => k_is)
    (case l_check_names => k_is)
    (case c_check_names => k_is)
    (case k_check_names => k_is)
    (case a__law_box => k_is)
    (case l__law_box => k_is)
    (case c__law_box => k_is)
    (case k__law_box => k_is)
    (case a__law_next => k_is)
    (case l__law_next => k_is)
    (case c__law_next => k_is)
    (case k__law_next => k_is)
    (case a__law_word => k_is)
    (case l__law_word => k_is)
    (case c__law_word => k_is)
    (case k__law_word => k_is)
    (case a__law_words => k_is)
    (case l__law_words => k_is)
    (case c__law_words => k_is)
    (case k__law_words => k_is)
    (case a__law_number => k_is)
    (case l__law_number => k_is)
    (case c__law_number => k_is)
    (case k__law_number => k_is)
    (case a__law_due => k_is)
    (case l__law_due => k_is)
    (case c__law_due => k_is)
    (case k__law_due => k_is)
    (case a__law_names => k_is)
    (case l__law_names => k_is)
    (case c__law_names => k_is)
    (case k__law_names => k_is)
    (case a_law => k_is)
    (case l_law => k_is)
    (case c_law => k_is)
    (case k_law => k_is)
    (case aC_HeldError => k_is)
    (case e_opq => k_is)
    (case e_cg => k_is)
    (case e_ct => k_is)
    (case aC_BadNumber => k_is)
    (case xL_BadNumber => k_is)
    (case bm_BadNumber => rfl)
    (case sa_BadNumber => k_is)
    (case ga_BadNumber => k_is)
    (case gg_BadNumber => k_is)
    (case no_number_BadNumber => k_is)
    (case iC_BadNumber => k_is)
    (case tI_BadNumber => k_is)
    (case kC_BadNumber => k_is)
    (case ex_BadNumber => k_is)
    (case ve_BadNumber => k_is)
    (case ty_BadNumber => k_is)
    (case hd_BadNumber => k_is)
    (case sup_BadNumber => ks_is)
    (case mro_BadNumber => k_is)
    (case su_BadNumber => first | rfl | k_is)
    (case ca_BadNumber => k_is)
    (case mo_BadNumber => k_is)
    (case l_BadNumber => k_is)
    (case c_BadNumber => k_is)
    (case lc_BadNumber => k_is)
    (case v2_BadNumber => rfl)
    (case fl_BadNumber => first | rfl | decide +kernel)
    (case cc_BadNumber => k_is)
    (case aC_UnknownName => k_is)
    (case xL_UnknownName => k_is)
    (case bm_UnknownName => rfl)
    (case sa_UnknownName => k_is)
    (case ga_UnknownName => k_is)
    (case gg_UnknownName => k_is)
    (case no_name_UnknownName => k_is)
    (case iC_UnknownName => k_is)
    (case tI_UnknownName => k_is)
    (case kC_UnknownName => k_is)
    (case ex_UnknownName => k_is)
    (case ve_UnknownName => k_is)
    (case ty_UnknownName => k_is)
    (case hd_UnknownName => k_is)
    (case sup_UnknownName => ks_is)
    (case mro_UnknownName => k_is)
    (case su_UnknownName => first | rfl | k_is)
    (case ca_UnknownName => k_is)
    (case mo_UnknownName => k_is)
    (case l_UnknownName => k_is)
    (case c_UnknownName => k_is)
    (case lc_UnknownName => k_is)
    (case v2_UnknownName => rfl)
    (case fl_UnknownName => first | rfl | decide +kernel)
    (case cc_UnknownName => k_is)
    (case aC_DoubleName => k_is)
    (case xL_DoubleName => k_is)
    (case bm_DoubleName => rfl)
    (case sa_DoubleName => k_is)
    (case ga_DoubleName => k_is)
    (case gg_DoubleName => k_is)
    (case no_name_DoubleName => k_is)
    (case iC_DoubleName => k_is)
    (case tI_DoubleName => k_is)
    (case kC_DoubleName => k_is)
    (case ex_DoubleName => k_is)
    (case ve_DoubleName => k_is)
    (case ty_DoubleName => k_is)
    (case hd_DoubleName => k_is)
    (case sup_DoubleName => ks_is)
    (case mro_DoubleName => k_is)
    (case su_DoubleName => first | rfl | k_is)
    (case ca_DoubleName => k_is)
    (case mo_DoubleName => k_is)
    (case l_DoubleName => k_is)
    (case c_DoubleName => k_is)
    (case lc_DoubleName => k_is)
    (case v2_DoubleName => rfl)
    (case fl_DoubleName => first | rfl | decide +kernel)
    (case cc_DoubleName => k_is)
    (case k1 => kit_is)
    (case k2 => kit_is)
    (case k3 => kit_is)
    (case k4 => kit_is)
    (case k5 => kit_is)
    (case k6 => kit_is)
    (case k7 => kit_is)
    (case x1 => first | rfl | decide +kernel | k_is)
#print axioms PySem.Challenge.cw_heldsteps_k02_numbers_and_names_checked_holds