import PyProof.Rows.All
import Wide.All
import OpenK.AllK
import Wide.FinOn
import PyProof.EqAt
import PyProof.EqKinds
import PyProof.TupleCall
import KE.KExcSuper
import KE.KExcIs
import HandS.ForMost
import HandS.ForExc
import HandS.ExcInit
import HandS.ExcField
import HandS.ExcIs
import HandS.TryMany
import HandS.Walk
import HandS.Wide
import HandS.EndBits
import HandS.Flow
import HandS.Codes
import HandS.IsInst
import HandS.More
import HandS.Conv
import HandS.DictTup
import KE.KDictWalk
import HandS.Style
import HandS.Text
import PySem.Challenge.RW_heldsteps_k13_whole_choices
set_option Elab.async false
set_option linter.all false
set_option maxRecDepth 100000
set_option maxHeartbeats 4000000
/-! An error class of the package: a class over a class over ValueError, whose __init__ says super().__init__(text) and then stores its arguments. -/
namespace PySem
namespace HErr
open PySem.W PySem.Calls PyProof.Rows PySem.HandSPX
abbrev FP := Str × Pos × Pos × Pos × Pos
def stF (q : FP) : Stmt := .Assign [.Attribute (.Name "self" q.2.1) q.1 q.2.2.1] (.Name q.1 q.2.2.2.1) q.2.2.2.2
def stS (msg : Expr) (p1 p2 p3 p4 p5 : Pos) : Stmt := .Expr (.Call (.Attribute (.Call (.Name "super" p1) [] [] p2) "__init__" p3) [msg] [] p4) p5
section
variable {prog : Program} {w : World} {A : Around} {E : Value → Shared → Prop} {s : Shared} {K : Frag} {C : Addr}
/-- what is known of the class for its stores -/
structure ClsK (K : Frag) (C : Addr) (fs : List Str) : Prop where
  cls : ∃ nm q N bs bm sn sub ab col dd k0 k1 k2 k3 k5, K.lookup C = some (excClassObj nm q C N bs bm true sn sub ab col dd k0 k1 k2 k3 k5 "ValueError.__new__") ∧ refsVE bm = true
  sa : findIn K (.ref C) "__setattr__" = some (some (.builtin "object.__setattr__"))
  noN : ∀ f ∈ fs, findIn K (.ref C) f = some none
theorem ClsK.data {fs : List Str} (T : ClsK K C fs) : ∃ cd, clsIn K C = some cd ∧ refsVE cd.mro = true ∧ cd.hasDict = true := by
  obtain ⟨nm, q, N, bs, bm, sn, sub, ab, col, dd, k0, k1, k2, k3, k5, hC, hbm⟩ := T.cls
  exact ⟨{ name := nm, bases := bs, mro := .ref C :: bm, ns := N, qualname := q, hasDict := true, slotNames := sn, subclasses := sub, abstract := ab, collection := col, hasDel := false }, by unfold clsIn; rw [hC] <;> rfl, hbm, rfl⟩
theorem ld {M : Model} {env : Env} {m : Str → Option Value} {x : Str} {pos : Pos} {v : Value} {Q : Value → Shared → Prop} (hn : s.heap.Ns env.locals m) (hv : m x = some v) (h : Q v s)
    (hk : env.scope.kind = .function) (hl : env.kindOf x = some .local) (hd : (x == ("__debug__" : Str)) = false) :
    wpAny M A (eval (.Name x pos) env) Q E s := wpAny_Name (wpAny_loadName_local hk hl hn hv h) hd
theorem swaps_attr (env : Env) (q : FP) : swapsWith (.Name q.1 q.2.2.2.1) (some (.Attribute (.Name "self" q.2.1) q.1 q.2.2.1)) q.2.2.2.2.line env = pure false := rfl
/-- the stores behind the first -/
theorem stores_old {names : List Str} (T : ClsK K C names) {env : Env} (hk : env.scope.kind = .function) (hself : env.kindOf "self" = some .local) {m : Str → Option Value} {x dx t0 : Addr} (hmx : m "self" = some (.ref x)) :
    ∀ (fs : List FP) (us : List Value) (vs : List L2.V) (hv : L2.Vals vs us) (hfn : ∀ q ∈ fs, q.1 ∈ names ∧ env.kindOf q.1 = some .local ∧ (q.1 == ("__debug__" : Str)) = false) (hm : Paired (fun (q : FP) u => m q.1 = some u) fs us) (fV : List (Str × L2.V)) (mA : Str → Option Value) (s : Shared) (Q : Flow → Shared → Prop),
      K.In s.heap → s.heap.Ns env.locals m → env.locals ≠ dx → K.lookup dx = none →
      s.heap.get? x = some { cls := .ref C, dict := some dx, data := .fields #[.ref t0, .none, .none, .none, .bool false, .none] } → s.heap.Ns1 dx mA → (∀ f, L2.RelO (fV.lookup f) (mA f)) → fV.length + fs.length ≤ 900 →
      (∀ h' tk mB, (∀ b o, b ≠ dx → s.heap.get? b = some o → h'.get? b = some o) → h'.Ns1 dx mB → (∀ f, L2.RelO ((((fs.map (·.1)).zip vs).reverse ++ fV).lookup f) (mB f)) → Q .next { s with heap := h', toks := tk }) →
      wpAny (model prog w) A (execs (fs.map stF) env) Q E s
  | [], us, vs, hv, hfn, hm, fV, mA, s, Q, X, hn, hL, hKd, hx, hns, hr, hl, hq => by
    refine wpAny_execs_nil ?_
    have := hq s.heap s.toks mA (fun _ _ _ e => e) hns (by simpa using hr)
    exact this
  | q :: fs, us, vs, hv, hfn, hm, fV, mA, s, Q, X, hn, hL, hKd, hx, hns, hr, hl, hq => by
    cases hm with
    | cons hu hm' =>
      rename_i u us'
      cases hv with
      | cons ru hv' =>
        rename_i v vs'
        obtain ⟨hmem, hloc, hdb⟩ := hfn q (List.mem_cons_self ..)
        obtain ⟨cd, hcd, hmro, hhd⟩ := T.data
        have hw := L2.within_of hr
        obtain ⟨hp, g, d, tk, os⟩ := s
        obtain ⟨oD, _, _, hoD, _, _⟩ := hns.count hw
        show wpAny _ _ (execs (stF q :: fs.map stF) env) _ _ _
        refine wpAny_execs_cons (plainObj_wpAny_Assign_Attribute ?_ (swaps_attr env q))
        refine ld hn hu (ld hn hmx ?_ hk hself (by decide)) hk hloc hdb
        refine set_plain X (ox := { cls := .ref C, dict := some dx, data := .fields #[.ref t0, .none, .none, .none, .bool false, .none] }) (od := some oD) ⟨hx, rfl, rfl, hoD⟩ T.sa ?_
        refine PySem.OEX.osa_old X hx hns hw (by rw [List.length_map]; omega) hcd hmro hhd (T.noN _ hmem) (fun h' tk' k hn' => ?_)
        have hxd : x ≠ dx := fun z => by
          obtain ⟨o, es, ep, e1, e2, _⟩ := hns
          rw [← z, hx] at e1
          cases e1
          cases e2
        refine stores_old T hk hself hmx fs us' vs' hv' (fun q' hq' => hfn q' (List.mem_cons_of_mem _ hq')) hm' ((q.1, v) :: fV) _ ⟨h', g, d, tk', os⟩ Q
          (fun a o e => k a o (fun z => by rw [z, hKd] at e; cases e) (X a o e)) ?_ hL hKd (k _ _ hxd hx) hn' (L2.relO_put ru hr) (by simp only [List.length_cons] at hl ⊢; omega) (fun h2 tk2 mB k2 hn2 r2 => ?_)
        · obtain ⟨o, es, ep, e1, e2⟩ := hn
          exact ⟨o, es, ep, k _ _ hL e1, e2⟩
        · refine hq h2 tk2 mB (fun b o hb e => k2 b o hb (k b o hb e)) hn2 fun f => ?_
          have := r2 f
          simpa using this
/-- all stores: from an exception without a dict -/
theorem stores_new {names : List Str} (T : ClsK K C names) {env : Env} (hk : env.scope.kind = .function) (hself : env.kindOf "self" = some .local) {m : Str → Option Value} {x t0 : Addr} (hmx : m "self" = some (.ref x))
    (q : FP) (fs : List FP) (us : List Value) (vs : List L2.V) (hv : L2.Vals vs us) (hfn : ∀ q' ∈ q :: fs, q'.1 ∈ names ∧ env.kindOf q'.1 = some .local ∧ (q'.1 == ("__debug__" : Str)) = false) (hm : Paired (fun (q : FP) u => m q.1 = some u) (q :: fs) us) (s : Shared) (Q : Flow → Shared → Prop)
    (X : K.In s.heap) (hn : s.heap.Ns env.locals m) (hLx : env.locals ≠ x) (hKx : K.lookup x = none)
    (hx : s.heap.get? x = some { cls := .ref C, data := .fields #[.ref t0, .none, .none, .none, .bool false, .none] }) (hl : fs.length ≤ 800)
    (hq : ∀ h' tk dx mB, (∀ b o, b ≠ x → s.heap.get? b = some o → h'.get? b = some o) → s.heap.objs.size ≤ dx → dx ≠ x → h'.get? x = some { cls := .ref C, dict := some dx, data := .fields #[.ref t0, .none, .none, .none, .bool false, .none] } →
      h'.Ns1 dx mB → (∀ f, L2.RelO (((((q :: fs).map (·.1)).zip vs).reverse).lookup f) (mB f)) → Q .next { s with heap := h', toks := tk }) :
    wpAny (model prog w) A (execs ((q :: fs).map stF) env) Q E s := by
  cases hm with
  | cons hu hm' =>
    rename_i u us'
    cases hv with
    | cons ru hv' =>
      rename_i v vs'
      obtain ⟨hmem, hloc, hdb⟩ := hfn q (List.mem_cons_self ..)
      obtain ⟨cd, hcd, hmro, hhd⟩ := T.data
      obtain ⟨hp, g, d, tk, os⟩ := s
      show wpAny _ _ (execs (stF q :: fs.map stF) env) _ _ _
      refine wpAny_execs_cons (plainObj_wpAny_Assign_Attribute ?_ (swaps_attr env q))
      refine ld hn hu (ld hn hmx ?_ hk hself (by decide)) hk hloc hdb
      refine set_plain X (ox := { cls := .ref C, dict := none, data := .fields #[.ref t0, .none, .none, .none, .bool false, .none] }) (od := none) ⟨hx, rfl, rfl, trivial⟩ T.sa ?_
      refine exc_osa X hx hcd hmro hhd (T.noN _ hmem) (fun h' tk' dx k dn dne hx' hn' => ?_)
      have hbig : ∀ {b : Addr} {o : Obj}, hp.get? b = some o → b ≠ dx := fun {b o} e => Nat.ne_of_lt (Nat.lt_of_lt_of_le (Heap.lt_size e) dn)
      have hKd : K.lookup dx = none := by
        cases e : K.lookup dx with
        | none => rfl
        | some o => exact absurd rfl (hbig (X _ _ e))
      have hLd : env.locals ≠ dx := by
        obtain ⟨o, es, ep, e1, e2⟩ := hn
        exact hbig e1
      refine stores_old T hk hself hmx fs us' vs' hv' (fun q' hq' => hfn q' (List.mem_cons_of_mem _ hq')) hm' [(q.1, v)] _ ⟨h', g, d, tk', os⟩ Q
        (fun a o e => k a o (fun z => by rw [z, hKx] at e; cases e) (X a o e)) ?_ hLd hKd hx' hn' (L2.relO_put (fs := []) ru fun _ => True.intro) (by simp only [List.length_cons, List.length_nil] at hl ⊢; omega) (fun h2 tk2 mB k2 hn2 r2 => ?_)
      · obtain ⟨o, es, ep, e1, e2⟩ := hn
        exact ⟨o, es, ep, k _ _ hLx e1, e2⟩
      · refine hq h2 tk2 dx mB (fun b o hb e => k2 b o (hbig e) (k b o hb e)) dn dne (k2 _ _ (Ne.symm dne) hx') hn2 fun f => ?_
        have := r2 f
        simpa using this
/-- what the written part says of the class at C and of its __init__, at fI: its name is cn, its fields fs -/
structure ErrTxt (P : Program) (K : Frag) (mg : Str → Option Value) (tm : Bool) (cn : Str) (C fI : Addr) (fs : List Str) : Prop extends ClsK K C fs where
  gC : mg cn = some (.ref C)
  ga : findIn K (.ref C) "__getattribute__" = some (some (.builtin "BaseException.__getattribute__"))
  gg : findIn K (.ref C) "__getattr__" = some none
  iC : findIn K (.ref C) "__init__" = some (some (.ref fI))
  tC : typeIn K (.ref fI) = some (.type "function")
  kC : keepIn K (.ref C) = true
  exC : subIn K (.ref C) (.type "BaseException") = some true
  veC : subIn K (.ref C) (.type "ValueError") = some true
  tyC : typeIn K (.ref C) = some (.type "type")
  hdC : hasDictIn K C = true
  sup : ks_superIn K C C "__init__" = some (some (.builtin "ValueError.__init__"))
  mro : mroIn K C (.ref C) = some true
  sub : subIn K (.ref C) (.ref C) = some true
  ca : findIn K (.ref C) "__class__" = some (some (.builtin "object.__class__"))
  cg : specialIn K (.builtin "object.__class__") "__get__" = some (some (.builtin "getset_descriptor.__get__"))
  ct : takesIn K (.builtin "object.__class__") = some true
  mo : mroIn K C (.type "object") = some true
  opq : nsIn K cStatics "thirdparty.any" = some none
  msup : mg "super" = none
  top : (P.main.scope.names.lookup ("super" : Str)).isSome = false
  fn : ∃ (oc : Value) (od : Option Addr) (qual : Str) (par : Arguments) (sc : Scope) (msg : Expr) (p1 p2 p3 p4 p5 : Pos) (fp : List FP) (dV kV doc pm : Value) (an : Option Addr) (cda cc : Addr) (ct : Value) (osl : Array (Option Value)) (ar : Arg)
      (ccl cl : Value) (cdd cld : Option Addr) (ccs csl : Array (Option Value)) (vs : Array Value) (file : Str) (tf : Tok),
    K.lookup fI = some ⟨oc, od, .func (ksFn "__init__" qual par (stS msg p1 p2 p3 p4 p5 :: fp.map stF) sc dV kV doc pm an (.ref cda) ct cc), osl⟩ ∧ codeIn K (.ref cda) qual = true ∧
    (par.posonlyargs ++ par.args).head? = some ar ∧ ar.arg = "self" ∧ K.lookup cda = some ⟨ccl, cdd, .fields vs, ccs⟩ ∧ vs[2]? = some (.str file tf) ∧ ((P.main.file : Str) == file) = true ∧
    K.lookup cc = some ⟨cl, cld, .cell (some (.ref C)), csl⟩ ∧ fp.map (·.1) = fs ∧ (p3.endLine == p4.line) = true ∧
    (sc.names.lookup ("super" : Str) = some .globalImplicit ∧ sc.names.lookup ("__class__" : Str) = some .free ∧ sc.names.lookup ("self" : Str) = some .local ∧ (∀ f ∈ fs, sc.names.lookup f = some .local) ∧ (∀ f ∈ fs, (f == ("__debug__" : Str)) = false) ∧ (∀ y ∈ sc.names, y.2 ≠ .cell)) ∧
    (sc.kind = .function ∧ sc.isGenerator = false ∧ sc.isCoroutine = false) ∧
    (∀ (s : Shared) (x : Value) (us : List Value), us.length = fs.length → BindsTo s (ksFn "__init__" qual par (stS msg p1 p2 p3 p4 p5 :: fp.map stF) sc dV kV doc pm an (.ref cda) ct cc) ⟨x :: us, []⟩ (("self", x) :: fs.zip us)) ∧
    (∀ (x : Value) (us : List Value), us.length = fs.length → ((("self" : Str), x) :: fs.zip us).reverse.lookup ("self" : Str) = some x ∧ Paired (fun f u => ((("self" : Str), x) :: fs.zip us).reverse.lookup f = some u) fs us) ∧
    ((tm = false ∧ ∃ (z : Str) (i : Nat) (p : Pos), msg = .Constant (.str z) i p) ∨ tm = true ∧ ∃ (z f : Str) (i : Nat) (p p' p'' : Pos), msg = .BinOp (.Constant (.str z) i p) .Add (.Name f p') p'' ∧ z.length ≤ 100 ∧ fs.head? = some f)
/-- what __init__ leaves of a fresh exception at x -/
structure InitEnd (h h' : Heap) (x C dx t1 : Addr) (fs : List Str) (vs : List L2.V) : Prop where
  keep : ∀ b o, b ≠ x → h.get? b = some o → h'.get? b = some o
  obj : h'.get? x = some { cls := .ref C, dict := some dx, data := .fields #[.ref t1, .none, .none, .none, .bool false, .none] }
  dbig : h.objs.size ≤ dx
  dne : dx ≠ x
  ns : ∃ mB, h'.Ns1 dx mB ∧ ∀ f, L2.RelO ((fs.zip vs).reverse.lookup f) (mB f)
/-- the built-in __init__, bound, called -/
theorem call_bw {h : Heap} {g : Array GenState} {d : Drawn} {t : Nat} {os : OsState} {u e t0 : Addr} {rest : List Value} {names : List Str} {Q : Value → Shared → Prop} (T : ClsK K C names) (X : K.In h)
    (he : h.get? e = some (excO C t0)) (hu : h.get? u = some (kxs_mw "ValueError.__init__" e)) (hrest : rest.length ≤ sizeLine)
    (hq : ∀ h' t1, (∀ b o, b ≠ e → h.get? b = some o → h'.get? b = some o) → h'.get? e = some (excO C t1) → Q .none ⟨h', g, d, t, os⟩) :
    wpAny (model prog w) A (call (.ref u) rest) Q E ⟨h, g, d, t, os⟩ := by
  obtain ⟨nm, q, N, bs, bm, sn, sub, ab, col, dd, k0, k1, k2, k3, k5, hC, hbm⟩ := T.cls
  refine wpAny_call (codeAny_of_tree ?_)
  show wpAny _ A.in1 (callAny (.ref u) ⟨rest, []⟩) _ _ _
  simp only [callAny]
  refine wpAny_bind (wpAny_load hu ?_)
  simp only [kxs_mw, show (Value.type "method-wrapper" == Value.type "method" || Value.type "method-wrapper" == Value.type "builtin_function_or_method" || Value.type "method-wrapper" == Value.type "method-wrapper") = true by decide, if_true]
  refine W.KFB.if_so (by decide) ?_
  refine wpAny_bind (PySem.W.check_bound_init F.excBase_ValueError.toExcCallFacts (X _ _ hC) he rfl ?_)
  refine wpAny_bind (wpAny_pure (wpAny_pure ?_))
  refine ⟨plainId_quiet F.excBase_ValueError.init.plain _, codeAny_builtin F.excBase_ValueError.initEntry ?_⟩
  exact exc_init_tree (cls := .ref C) (t0 := t0) (dv := none) (c2 := .none) (c3 := .none) (b4 := .bool false) he hrest fun h' k e' _ => hq h' _ k e'
/-- the text that super().__init__ gets -/
def MsgOk (msg : Expr) (env : Env) (m : Str → Option Value) : Prop := ∀ (prog : Program) (w : World) (A : Around) (E : Value → Shared → Prop) (s : Shared) (Q : Value → Shared → Prop), s.heap.Ns env.locals m → (∀ v tk, Q v { s with toks := tk }) → wpAny (model prog w) A (eval msg env) Q E s
/-- its __init__, called -/
theorem err_init {mg : Str → Option Value} {cn : Str} {fI : Addr} {fs : List Str} {tm : Bool} (T : ErrTxt prog K mg tm cn C fI fs) {x t0 : Addr} {us : List Value} {vs : List L2.V} {mb : Str → Option Value} {R : Result → Shared → Prop} (hv : L2.Vals vs us) (hl : us.length = fs.length) (hl8 : fs.length ≤ 8) (hne : fs ≠ [])
    (hmsg : tm = true → ∀ u, us.head? = some u → ∃ (z : Str) (t : Tok), u = .str z t ∧ z.length ≤ 1000)
    (X : K.In s.heap) (hlim : s.heap.NoLimit) (hg : s.heap.Ns mainGlobals mg) (hb : s.heap.Ns builtinsNs mb) (hbs : mb "super" = bootBuiltins "super") (hx : s.heap.get? x = some (excO C t0)) (hnx : K.lookup x = none) (hroom : A.depth < recursionLimit)
    (hq : ∀ h' tk dx t1, InitEnd s.heap h' x C dx t1 fs vs → R (.ok (.ret .none)) { s with heap := h', toks := tk }) :
    codeAny (model prog w) A (.call (.ref fI) ⟨.ref x :: us, []⟩) R s := by
  obtain ⟨oc, od, qual, par, sc, msg, p1, p2, p3, p4, p5, fp, dV, kV, doc, pm, an, cda, cc, ct, osl, ar, ccl, cl, cdd, cld, ccs, csl, avs, file, tf, ho, hcd, har, hself, hcda, hfile, hfe, hcell, hfp, hpos, ⟨nS, nC, nSelf, nF, nD, nCell⟩, ⟨kF, kG, kCo⟩, hbind, hlook, hm⟩ := T.fn
  obtain ⟨lself, lf⟩ := hlook (.ref x) us hl
  obtain ⟨cd, hcd2, hmro, hhd⟩ := T.toClsK.data
  obtain ⟨oD, hD1, hD2⟩ : ∃ oD, s.heap.get? C = some oD ∧ oD.data = .cls cd := by
    unfold clsIn at hcd2
    split at hcd2
    · rename_i c d cd' sl ho'
      cases hcd2
      exact ⟨_, X _ _ ho', rfl⟩
    · cases hcd2
  have hxC : x ≠ C := fun z => by
    rw [z, hD1] at hx
    cases hx
    cases hD2
  refine ks_codeAny_call_defAt (fd := ksFn "__init__" qual par (stS msg p1 p2 p3 p4 p5 :: fp.map stF) sc dV kV doc pm an (.ref cda) ct cc) (body := stS msg p1 p2 p3 p4 p5 :: fp.map stF) (binds := ("self", .ref x) :: fs.zip us) hroom (X _ _ ho) rfl hlim (codeRec_of X hcd) rfl (hbind s (.ref x) us hl) nCell ?_ (fun h₁ hns hk₁ => ?_) kCo kG kF
  · intro y hy
    rcases List.mem_cons.mp hy with rfl | hy
    · exact nSelf
    · exact nF _ (List.of_mem_zip hy).1
  have X₁ : K.In h₁ := X.keeps hk₁
  have hx₁ := hk₁ _ _ hx
  have hLx : s.heap.objs.size ≠ x := Nat.ne_of_gt (Heap.lt_size hx)
  have hMsg : MsgOk msg (ksEnv qual sc s.heap.objs.size fI (.ref cda) cc) (fun y => (((("self" : Str), Value.ref x) :: fs.zip us).reverse.lookup y)) := by
    intro prog w A E s1 Q hn1 hq1
    rcases hm with ⟨_, z, i, p, rfl⟩ | ⟨htm, z, f, i, p, p', p'', rfl, hz, hf⟩
    · exact wpAny_Constant_str (hq1 _ _)
    · cases lf with
      | nil => cases hf
      | cons h1 _ =>
        cases hf
        obtain ⟨z2, t2, rfl, hz2⟩ := hmsg htm _ rfl
        refine wpAny_BinOp (wpAny_Constant_str (ld (env := ksEnv qual sc s.heap.objs.size fI (.ref cda) cc) hn1 h1 ?_ kF (nF _ (List.mem_cons_self ..)) (nD _ (List.mem_cons_self ..))))
        exact add_str (fun t' tk => hq1 _ _) (by rw [sizeLine_eq]; omega)
  obtain ⟨kind, names, isG, isC, more⟩ := sc
  dsimp only at kF kG kCo nS nC nSelf nF nCell
  subst kF kG kCo
  obtain ⟨pl, he⟩ : ∃ pl, eval (.Call (.Attribute (.Call (.Name "super" p1) [] [] p2) "__init__" p3) [msg] [] p4) (ksEnv qual ⟨.function, names, false, false, more⟩ s.heap.objs.size fI (.ref cda) cc) = (do
      let ov ← attributeBase (.Call (.Name "super" p1) [] [] p2) "__init__" (ksEnv qual ⟨.function, names, false, false, more⟩ s.heap.objs.size fI (.ref cda) cc) (eval (.Call (.Name "super" p1) [] [] p2) (ksEnv qual ⟨.function, names, false, false, more⟩ s.heap.objs.size fI (.ref cda) cc))
      standAt p3.atName
      let (f, first) ← holding [ov] (getMethod ov "__init__" pl)
      callWith p4 f first (backTo p4 (starEach [msg] (ksEnv qual ⟨.function, names, false, false, more⟩ s.heap.objs.size fI (.ref cda) cc))) []) := by
    have hmp : ∀ o env, methodCallPos true o env p3 p4 = pure p4 := fun o env => by
      unfold methodCallPos
      rw [hpos] <;> rfl
    have key : ∀ ms : Expr, methodCallForm ([ms].length + ([] : List Keyword).length) (backTo p4 (starEach [ms] (ksEnv qual ⟨.function, names, false, false, more⟩ s.heap.objs.size fI (.ref cda) cc))) (backToKw p4 (keywordEach [] (ksEnv qual ⟨.function, names, false, false, more⟩ s.heap.objs.size fI (.ref cda) cc))) = true →
        eval (.Call (.Attribute (.Call (.Name "super" p1) [] [] p2) "__init__" p3) [ms] [] p4) (ksEnv qual ⟨.function, names, false, false, more⟩ s.heap.objs.size fI (.ref cda) cc) = (do
      let ov ← attributeBase (.Call (.Name "super" p1) [] [] p2) "__init__" (ksEnv qual ⟨.function, names, false, false, more⟩ s.heap.objs.size fI (.ref cda) cc) (eval (.Call (.Name "super" p1) [] [] p2) (ksEnv qual ⟨.function, names, false, false, more⟩ s.heap.objs.size fI (.ref cda) cc))
      standAt p3.atName
      let (f, first) ← holding [ov] (getMethod ov "__init__" (do return (← importBound (.Call (.Name "super" p1) [] [] p2) (ksEnv qual ⟨.function, names, false, false, more⟩ s.heap.objs.size fI (.ref cda) cc)).getD true))
      callWith p4 f first (backTo p4 (starEach [ms] (ksEnv qual ⟨.function, names, false, false, more⟩ s.heap.objs.size fI (.ref cda) cc))) []) := by
      intro ms hf
      show (do
        let ov ← attributeBase (.Call (.Name "super" p1) [] [] p2) "__init__" (ksEnv qual ⟨.function, names, false, false, more⟩ s.heap.objs.size fI (.ref cda) cc) (eval (.Call (.Name "super" p1) [] [] p2) (ksEnv qual ⟨.function, names, false, false, more⟩ s.heap.objs.size fI (.ref cda) cc))
        standAt p3.atName
        methodCall (.Call (.Name "super" p1) [] [] p2) "__init__" p3 p4 (ksEnv qual ⟨.function, names, false, false, more⟩ s.heap.objs.size fI (.ref cda) cc) ov ([ms].length + ([] : List Keyword).length) (backTo p4 (starEach [ms] (ksEnv qual ⟨.function, names, false, false, more⟩ s.heap.objs.size fI (.ref cda) cc))) (backToKw p4 (keywordEach [] (ksEnv qual ⟨.function, names, false, false, more⟩ s.heap.objs.size fI (.ref cda) cc)))) = _
      unfold methodCall
      simp only [hf, hmp, pure_bind]
      rfl
    rcases hm with ⟨_, z, i, p, rfl⟩ | ⟨htm, z, f, i, p, p', p'', rfl, hz, hf⟩
    · exact ⟨_, key _ rfl⟩
    · exact ⟨_, key _ rfl⟩
  have hst : starEach [msg] (ksEnv qual ⟨.function, names, false, false, more⟩ s.heap.objs.size fI (.ref cda) cc) = [(false, eval msg (ksEnv qual ⟨.function, names, false, false, more⟩ s.heap.objs.size fI (.ref cda) cc))] := by
    rcases hm with ⟨_, z, i, p, rfl⟩ | ⟨htm, z, f, i, p, p', p'', rfl, hz, hf⟩
    · rfl
    · rfl
  -- super().__init__(..)
  refine ks_wpAt_execs_cons (ks_wpAt_Expr_any (ks_wpAt_MethodCall (pl := pl) ?_ he))
  refine ks_wpAt_super_base (env := ksEnv qual ⟨.function, names, false, false, more⟩ s.heap.objs.size fI (.ref cda) cc) nS nC (by decide) rfl (hk₁ _ _ (X _ _ ho)) rfl har rfl (X₁ _ _ hcda) rfl hfile hfe T.top ?_
  refine ks_loadName_global rfl nS (loadGlobal_builtin (env := ksEnv qual ⟨.function, names, false, false, more⟩ s.heap.objs.size fI (.ref cda) cc) (hg.keeps hk₁) T.msup (hb.keeps hk₁) (hbs.trans (by first | boot_by_name | rfl | kernel_rfl)) ⟨rfl, ?_⟩)
  refine wpAny_loadName_free rfl nC rfl ⟨_, X₁ _ _ hcell, rfl⟩ ?_
  rw [hself]
  refine wpAny_loadName_local rfl nSelf hns lself ?_
  refine ks_wpAny_isType_cls (hk₁ _ _ hD1) hD2 ⟨rfl, ?_⟩
  refine ks_wpAny_call_super (hk₁ _ _ hD1) hD2 hx₁ rfl (fun c e => by cases e) (looks_mroIn X₁ T.mro) (fun h₂ eso k₂ => ?_)
  have X₂ : K.In h₂ := X₁.keeps k₂
  have hx₂ := k₂ _ _ hx₁
  have hnsU : ∀ {h : Heap}, (∀ b o, h₁.get? b = some o → h.get? b = some o) → h.Ns s.heap.objs.size (fun y => ((("self" : Str), Value.ref x) :: fs.zip us).reverse.lookup y) := fun {h} k => hns.keeps k
  have hsup := T.sup
  unfold ks_superIn at hsup
  rw [hcd2] at hsup
  refine kxs_getMethod kxs_ValueError (K := K) eso (looks_opaque X₂ T.opq) (l₀ := cd.mro) ?_ rfl X₂ hsup ?_ hxC (by decide) ?_
  · exact fun A Q E s k q => wpAny_bind ((looks_clsIn X₂ hcd2) A _ E s k (wpAny_pure q))
  · exact (InstAt.type (od := none) ⟨hx₂, rfl, rfl, trivial⟩).andThen (looks_subIn X₂ T.veC)
  · have k₃ : ∀ b o, h₂.get? b = some o → (h₂.push (kxs_mw "ValueError.__init__" x)).get? b = some o := fun b o e => Heap.get?_push_of_some _ e
    show wpAny _ _ (callWith p4 (.ref h₂.objs.size) [] (backTo p4 (starEach [msg] (ksEnv qual ⟨.function, names, false, false, more⟩ s.heap.objs.size fI (.ref cda) cc))) []) _ _ _
    rw [hst]
    refine kxs_callWith (i := "ValueError.__init__") (x := x) rfl (evalArgs_plain ?_)
    refine spliced_cons ?_
    refine hMsg prog w _ _ _ _ (hnsU fun b o e => k₃ b o (k₂ b o e)) (fun v tk => spliced_nil ⟨?_, ?_⟩)
    · exact Heap.get?_push_at rfl rfl
    · refine call_bw T.toClsK (X₂.keeps k₃) (k₃ _ _ hx₂) (Heap.get?_push_at rfl rfl) (by rw [sizeLine_eq]; exact (by decide : 1 ≤ 16777216)) (fun h₄ t1 k₄ hx₄ => ?_)
      have hsz : ∀ {b : Addr} {o : Obj}, s.heap.get? b = some o → b ≠ x → h₄.get? b = some o := fun {b o} e hb => k₄ b o hb (k₃ b o (k₂ b o (hk₁ b o e)))
      have hL4 : h₄.Ns s.heap.objs.size (fun y => ((("self" : Str), Value.ref x) :: fs.zip us).reverse.lookup y) := by
        obtain ⟨o, es, ep, e1, e2⟩ := hns
        exact ⟨o, es, ep, k₄ _ _ hLx (k₃ _ _ (k₂ _ _ e1)), e2⟩
      cases fp with
      | nil => exact absurd hfp.symm (by simpa using hne)
      | cons q fp =>
        have hP : Paired (fun (q : FP) u => ((("self" : Str), Value.ref x) :: fs.zip us).reverse.lookup q.1 = some u) (q :: fp) us := by
          rw [← hfp] at lf
          have key : ∀ (m : Str → Option Value) (l : List FP) (us : List Value), Paired (fun f u => m f = some u) (l.map (·.1)) us → Paired (fun (q : FP) u => m q.1 = some u) l us := by
            intro m l
            induction l with
            | nil => intro us h; cases h; exact .nil
            | cons a l ih => intro us h; cases h with | cons h1 h2 => exact .cons h1 (ih _ h2)
          have := key (fun y => ((("self" : Str), Value.ref x) :: fs.zip us).reverse.lookup y) (q :: fp) us (by simpa [hfp] using lf)
          exact this
        show wpAt _ _ _ (execs ((q :: fp).map stF) _) _ _ _
        refine wpAt_of_wpAny (stores_new (m := fun y => (((("self" : Str), Value.ref x) :: fs.zip us).reverse.lookup y)) T.toClsK (env := ksEnv qual ⟨.function, names, false, false, more⟩ s.heap.objs.size fI (.ref cda) cc) rfl nSelf lself q fp us vs hv (fun q' hq' => ?_) hP ⟨h₄, s.gens, s.drawn, tk, s.os⟩ _ ((fun a o e => hsz (X a o e) (fun z => by rw [z, hnx] at e; cases e))) hL4 hLx hnx hx₄ ?_ (fun h' tk' dx mB k5 dn dne hx5 hn5 r5 => ?_))
        · have hin : q'.1 ∈ fs := by rw [← hfp]; exact List.mem_map_of_mem hq'
          exact ⟨hin, nF _ hin, nD _ hin⟩
        · have : (q :: fp).length = fs.length := by rw [← hfp, List.length_map]
          simp only [List.length_cons] at this
          omega
        · refine hq h' tk' dx t1 ⟨fun b o hb e => k5 b o hb (hsz e hb), hx5, ?_, dne, mB, hn5, ?_⟩
          · refine Nat.le_trans ?_ dn
            have z1 : s.heap.objs.size < h₄.objs.size := by
              obtain ⟨o, es, ep, e1, e2⟩ := hL4
              exact Heap.lt_size e1
            exact Nat.le_of_lt z1
          · intro f
            have := r5 f
            rw [hfp] at this
            exact this
/-- a made error -/
structure OwnMade (h h' : Heap) (e C d : Addr) (fs : List Str) (vs : List L2.V) : Prop where
  keep : ∀ b o, h.get? b = some o → h'.get? b = some o
  new : h.objs.size ≤ e
  obj : ∃ oe as, h'.get? e = some oe ∧ oe.cls = .ref C ∧ oe.dict = some d ∧ oe.data = .fields as ∧ as[1]? = some .none
  dbig : h.objs.size ≤ d
  dne : d ≠ e
  ns : ∃ mB, h'.Ns1 d mB ∧ ∀ f, L2.RelO ((fs.zip vs).reverse.lookup f) (mB f)
theorem err_made {mg : Str → Option Value} {cn : Str} {fI : Addr} {fs : List Str} {tm : Bool} (T : ErrTxt prog K mg tm cn C fI fs) {us : List Value} {vs : List L2.V} {mb : Str → Option Value} {R : Result → Shared → Prop} (hv : L2.Vals vs us) (hl : us.length = fs.length) (hl8 : fs.length ≤ 8) (hne : fs ≠ [])
    (hmsg : tm = true → ∀ u, us.head? = some u → ∃ (z : Str) (t : Tok), u = .str z t ∧ z.length ≤ 1000)
    (X : K.In s.heap) (hlim : s.heap.NoLimit) (hg : s.heap.Ns mainGlobals mg) (hb : s.heap.Ns builtinsNs mb) (hbs : mb "super" = bootBuiltins "super") (hroom : A.depth + 1 < recursionLimit)
    (hq : ∀ h' tk e d, OwnMade s.heap h' e C d fs vs → R (.ok (.ret (.ref e))) { s with heap := h', toks := tk }) :
    codeAny (model prog w) A (.call (.ref C) ⟨us, []⟩) R s := by
  obtain ⟨nm, q, N, bs, bm, sn, sub, ab, col, dd, k0, k1, k2, k3, k5, hC, hbm⟩ := T.cls
  obtain ⟨hp, g, dr, tk, os⟩ := s
  have k : ∀ b o, hp.get? b = some o → ((hp.push (kdv_tup us)).push (excO C hp.objs.size)).get? b = some o := fun b o e => Heap.get?_push_of_some _ (Heap.get?_push_of_some _ e)
  have hget : ((hp.push (kdv_tup us)).push (excO C hp.objs.size)).get? (hp.objs.size + 1) = some (excO C hp.objs.size) := by heap_get
  have hnx : K.lookup (hp.objs.size + 1) = none := by
    cases e : K.lookup (hp.objs.size + 1) with
    | none => rfl
    | some o =>
      have z : hp.get? (hp.objs.size + 1) = some o := X _ _ e
      exact absurd (Nat.lt_of_succ_lt (Heap.lt_size z)) (Nat.lt_irrefl _)
  refine call_own F.excBase_ValueError (fun X => refsVE_contains X bm hbm) (X _ _ hC) (looks_findIn X T.iC) (fun self => bind_fn X self T.tC) (by rw [sizeLine_eq]; omega) ?_
  refine err_init (s := ⟨(hp.push (kdv_tup us)).push (excO C hp.objs.size), g, dr, tk, os⟩) T hv hl hl8 hne hmsg (X.keeps k) (hlim.keeps k) (hg.keeps k) (hb.keeps k) hbs hget hnx ?_ fun h' tk' dx t1 ⟨k', hx, dn, dne, hns⟩ => ?_
  · show A.depth + 1 < recursionLimit
    exact hroom
  · have old : ∀ b o, hp.get? b = some o → h'.get? b = some o := fun b o e => k' b o (Nat.ne_of_lt (Nat.lt_succ_of_lt (Heap.lt_size e))) (k b o e)
    have z : hp.objs.size + 1 + 1 ≤ dx := by
      first
        | (simpa only [Heap.size_push] using dn)
        | exact dn
        | (have q := dn; rw [Heap.size_push, Heap.size_push] at q; exact q)
    exact ⟨rfl, hq h' tk' (hp.objs.size + 1) dx ⟨old, Nat.le_succ _, ⟨_, _, hx, rfl, rfl, rfl, rfl⟩, Nat.le_trans (Nat.le_trans (Nat.le_succ _) (Nat.le_succ _)) z, dne, hns⟩⟩
end
end HErr
end PySem
namespace L2
open PySem PySem.Spec PyProof.Rows PySem.HErr
section
variable {X : Cx} {C fI : Addr} {cn : Str} {fs : List Str} {tm : Bool}
/-- C(e, ..), an error of the package -/
def tMkE (tm : Bool) (C : Addr) (fs : List Str) (ta : TA) : St → Hp → XK → Prop := fun σ H Q => ta σ H fun vs H1 => vs.length = fs.length ∧ (tm = true → ∃ (z : Str) (r : List V), vs = .str z :: r ∧ z.length ≤ 1000) ∧
  ∀ d, H1 d = none → Q (.ref C) (some d) (upd H1 d (.xd (fs.zip vs).reverse))
theorem pmk_err {a : Expr} {as : List Expr} {ta : TA} {p pos : Pos} {k : Nat} (T : ErrTxt X.prog X.K X.mg tm cn C fI fs) (hr : Room k X.A) (ha : PA X (a :: as) ta) (hl8 : fs.length ≤ 8) (hne : fs ≠ []) (hg : Gl X cn := by rfl) (hdb : (cn == ("__debug__" : Str)) = false := by decide)
    (he : starEach (a :: as) X.env = (false, eval a X.env) :: starEach as X.env := by rfl) (hpl : (backTo pos (starEach as X.env)).any (·.1) = false := by rfl) :
    PMk X (.Call (.Name cn p) (a :: as) [] pos) (tMkE tm C fs ta) := by
  intro pins s σ H Q I h
  refine wpAny_Call_Name_kw (ld_glob I hg T.gC ?_ hdb)
  refine PySem.W.callWith_K (h₀ := X.base) I.ok.mod.kin T.kC (thn (ha.run pos pins s σ H _ I h) fun us s1 hh => ?_) he hpl
  obtain ⟨vs, H1, I1, r1, hl, hz, q1⟩ := hh
  refine ⟨I1.kIn, ?_⟩
  show wpAny _ _ (call (.ref C) us) _ _ _
  have hlim := I1.nolimit
  obtain ⟨mb, hb1, hb2⟩ := I1.mod.blt
  have hgl := I1.mod.glob.keeps I1.bk
  have hbl := hb1.keeps I1.bk
  obtain ⟨hp, g, dr, tk, os⟩ := s1
  refine wpAny_call (err_made (mb := mb) T r1 (r1.length.symm.trans hl) hl8 hne ?_ I1.kIn hlim hgl hbl (hb2 "super" (by decide)) (by have := hr.dp; omega) fun h' tk' e d M => ?_)
  · intro ht u hu
    obtain ⟨z, r, rfl, hz5⟩ := hz ht
    cases r1 with
    | cons r0 _ =>
      cases hu
      obtain ⟨t, rfl⟩ := r0
      exact ⟨z, t, rfl, hz5⟩
  show MkP X pins σ Q (.ref e) ⟨h', g, dr, tk', os⟩
  obtain ⟨oe, fv, hoe, hc, hd, hdat, h1⟩ := M.obj
  obtain ⟨mB, hns, hrel⟩ := M.ns
  obtain ⟨G', g1, g2⟩ := restrict h' fun b => decide (b ≠ e)
  have gk : ∀ b, b ≠ e → G'.get? b = h'.get? b := fun b hb => g1 b (decide_eq_true hb)
  have ge : G'.get? e = none := g2 e (by simp)
  have old : ∀ b o, hp.get? b = some o → G'.get? b = some o := fun b o q => (gk b (Nat.ne_of_lt (Nat.lt_of_lt_of_le (Heap.lt_size q) M.new))).trans (M.keep b o q)
  have ob : ObjOk X.prog X.w (upd H1 d (.xd (fs.zip vs).reverse)) G' d (.xd (fs.zip vs).reverse) :=
    ⟨mB, hns.at (fun o q => (gk d M.dne).trans q), hrel⟩
  have J : Inv X pins σ (upd H1 d (.xd (fs.zip vs).reverse)) ⟨G', g, dr, tk', os⟩ := I1.laid (t' := tk') old M.dbig ob
  refine ⟨e, oe, fv, ⟨G', g, dr, tk', os⟩, _, .ref C, some d, rfl, J, fun b o q => ?_, ge, hoe, ⟨hc, hd⟩, hdat, h1, ?_, rfl, I1.bare, raises_own T.exC T.tyC, q1 d (I1.hok.fresh M.dbig)⟩
  · by_cases hb : b = e
    · have q' : G'.get? b = some o := q
      rw [hb, ge] at q'; cases q'
    · exact (gk b hb).symm.trans q
  · rw [upd_ne (Ne.symm M.dne)]
    exact I1.hok.fresh M.new
/-- raise C(e, ..) -/
def tRaiseE (tm : Bool) (C : Addr) (fs : List Str) (W : WX) (ta : TA) : TS := fun _ σ H => tMkE tm C fs ta σ H fun cls d H' => W cls d σ H'
theorem ps_raiseE {a : Expr} {as : List Expr} {ta : TA} {W : WX} {p pos pos2 : Pos} {k : Nat} (hc : X.calm = true) (T : ErrTxt X.prog X.K X.mg tm cn C fI fs) (hr : Room k X.A) (tk : Takes X W) (ha : PA X (a :: as) ta) (hl8 : fs.length ≤ 8 := by decide) (hne : fs ≠ [] := by decide) (hg : Gl X cn := by rfl) (hdb : (cn == ("__debug__" : Str)) = false := by decide)
    (he : starEach (a :: as) X.env = (false, eval a X.env) :: starEach as X.env := by rfl) (hpl : (backTo pos (starEach as X.env)).any (·.1) = false := by rfl) :
    PS X (.Raise (some (.Call (.Name cn p) (a :: as) [] pos)) none pos2) (tRaiseE tm C fs W ta) := ps_raise hc tk (pmk_err T hr ha hl8 hne hg hdb he hpl)
/-- an own class in an except clause -/
theorem _root_.PySem.HErr.ErrTxt.xf {P : Program} {K : PySem.W.Frag} {mg : Str → Option Value} (T : ErrTxt P K mg tm cn C fI fs) : XfC K C := ⟨T.ga, T.gg, T.exC, T.hdC⟩
theorem _root_.PySem.HErr.ErrTxt.te {P : Program} {K : PySem.W.Frag} {mg : Str → Option Value} (T : ErrTxt P K mg tm cn C fI fs) : PySem.W.exmOne K (.ref C) (.ref C) = some true := PySem.W.exm_ref T.exC T.hdC T.tyC T.sub
/-- what isinstance asks of the class of an error -/
structure IsC (K : PySem.W.Frag) (D : Addr) : Prop where
  hg : PySem.W.findIn K (.ref D) "__getattribute__" = some (some (.builtin "BaseException.__getattribute__"))
  hk : PySem.W.findIn K (.ref D) "__getattr__" = some none
  hs : PySem.W.subIn K (.ref D) (.type "BaseException") = some true
  hd : PySem.W.hasDictIn K D = true
  ha : PySem.W.findIn K (.ref D) "__class__" = some (some (.builtin "object.__class__"))
  hn : PySem.W.specialIn K (.builtin "object.__class__") "__get__" = some (some (.builtin "getset_descriptor.__get__"))
  ht : PySem.W.takesIn K (.builtin "object.__class__") = some true
  hm : PySem.W.mroIn K D (.type "object") = some true
theorem _root_.PySem.HErr.ErrTxt.isC {P : Program} {K : PySem.W.Frag} {mg : Str → Option Value} (T : ErrTxt P K mg tm cn C fI fs) : IsC K C := ⟨T.ga, T.gg, T.exC, T.hdC, T.ca, T.cg, T.ct, T.mo⟩
/-- isinstance(e, c), e the error (with fields) that the suite holds -/
def rIsD (K : PySem.W.Frag) (cls : Value) (d : Option Addr) (a : Addr) : List V → Hp → VK → Prop := fun xs H Q => ∃ (D dd : Addr) (fs : List (Str × V)) (c : V) (cv : Value) (b : Bool), cls = .ref D ∧ IsC K D ∧ d = some dd ∧ H dd = some (.xd fs) ∧ xs = [.ref a, c] ∧ (∀ u, RelV c u → u = cv) ∧ PySem.W.kitOne K (.ref D) cv = some b ∧ Q (.bl b) H
theorem call_isD {a : Addr} {oe : Obj} {cls : Value} {d : Option Addr} {pn : List (Addr × Obj)} (hz : Zc cls d oe) (hf : ∃ vs, oe.data = .fields vs) : CallR (X.suite a ((a, oe) :: pn)) (.builtin "isinstance") (rIsD X.K cls d a) := by
  intro pins s σ H xs us Q I r h
  obtain ⟨D, dd, fs, c, cv, b, rfl, C, rfl, hdd, rfl, hcv, e, q⟩ := h
  cases r with
  | cons rx rr =>
    cases rr with
    | cons rt rr =>
      cases rr
      cases rx
      have ec := hcv _ rt
      subst ec
      obtain ⟨hget, _⟩ := I.pin (a, oe) (List.mem_append.mpr (.inl List.mem_cons_self))
      obtain ⟨vs, hv⟩ := hf
      have hx : ObjOk X.prog X.w H s.heap dd (.xd fs) := I.hok dd _ hdd
      obtain ⟨mA, hns, hr⟩ := hx
      obtain ⟨od, ho, hl⟩ := lookIn_ns hns
      have J : PySem.W.InstAt s.heap a oe D (some od) := ⟨hget, hz.1, by unfold PySem.W.notCls; rw [hv] <;> rfl, by rw [hz.2]; exact ho⟩
      have hcl : (PySem.W.clsIn X.K D).isSome = true := by
        obtain ⟨cd, hc, _⟩ := PySem.W.any_some C.hd
        rw [hc]
        rfl
      exact PySem.W.kia_one (PySem.W.kitx_exc hcl C.hg C.hk C.hs C.ha C.hn C.ht C.hm) I.kIn J e (fun z => nomatch z) fun tk => ⟨.bl b, H, I.kept (t' := tk) fun _ _ z => z, rfl, q⟩
end
end L2

set_option Elab.async false
set_option linter.all false
set_option maxRecDepth 100000
set_option maxHeartbeats 4000000
/-! try with several except clauses, each with or without a name. -/
namespace L2
open PySem PySem.Spec PyProof.Rows PySem.HErr
abbrev Clause := Value × Option Nat × (Addr → Value → Option Addr → TS)
def endsAt (o : Option Nat) (D : Ends) : Ends := match o with
  | none => D
  | some i => { nx := fun σ H => D.nx (σ.set i none) H, rt := D.rt, bk := fun σ H => D.bk (σ.set i none) H, ct := fun σ H => D.ct (σ.set i none) H }
def slotAt (o : Option Nat) (a : Addr) (σ : St) : St := match o with
  | none => σ
  | some i => σ.set i (some (.ref a))
/-- what the clauses want of an exception of the body, from the first on -/
def wClauses (K : PySem.W.Frag) (Wout : WX) (D : Ends) : List Clause → WX
  | [] => Wout
  | (c, o, ts) :: r => fun cls d σ H => ∃ b, PySem.W.exmOne K cls c = some b ∧ (b = true → ∀ a, H a = none → ts a cls d (endsAt o D) (slotAt o a σ) H) ∧ (b = false → wClauses K Wout D r cls d σ H)
inductive Clauses (X : Cx) : List ExceptHandler → List Clause → Prop
  | nil : Clauses X [] []
  | bare {x : Str} {c : Value} {ts : Addr → Value → Option Addr → TS} {b₀ : Stmt} {suite : List Stmt} {np pos' : Pos} {hds : List ExceptHandler} {l : List Clause} (hc : Names X x c)
      (hsu : ∀ (a : Addr) (oe : Obj) (cls : Value) (d : Option Addr) (pn : List (Addr × Obj)), Zc cls d oe → (∃ vs, oe.data = .fields vs) → PSs (X.suite a ((a, oe) :: pn)) (b₀ :: suite) (ts a cls d)) (r : Clauses X hds l) :
      Clauses X (.ExceptHandler (some (.Name x np)) none (b₀ :: suite) pos' :: hds) ((c, none, ts) :: l)
  | named {x n : Str} {i : Nat} {c : Value} {ts : Addr → Value → Option Addr → TS} {b₀ : Stmt} {suite : List Stmt} {np pos' : Pos} {hds : List ExceptHandler} {l : List Clause} (hi : X.N[i]? = some n) (hln : X.env.kindOf n = some .local) (hc : Names X x c)
      (hsu : ∀ (a : Addr) (oe : Obj) (cls : Value) (d : Option Addr) (pn : List (Addr × Obj)), Zc cls d oe → (∃ vs, oe.data = .fields vs) → PSs (X.suite a ((a, oe) :: pn)) (b₀ :: suite) (ts a cls d)) (r : Clauses X hds l) :
      Clauses X (.ExceptHandler (some (.Name x np)) (some n) (b₀ :: suite) pos' :: hds) ((c, some i, ts) :: l)
section
variable {X : Cx} {body : List Stmt} {h₀ : ExceptHandler} {hds : List ExceptHandler} {l : List Clause} {pos : Pos} {tb : WX → TS} {Wout : WX}
theorem ps_try_all (hs : X.stack = X.env :: X.outer) (hf : X.env.frame = some X.env.locals) (hN : X.N.Nodup) (tk : Takes X Wout)
    (hb : ∀ (W : WX) (pn : List (Addr × Obj)) (xe : Value → Shared → Prop), Takes (X.tr pn xe) W → PassesOwn (model X.prog X.w) X.A X.env xe → PSs (X.tr pn xe) body (tb W))
    (hh : Clauses X (h₀ :: hds) l) {K : PySem.W.Frag} (hK : X.K = K := by rfl) : PS X (.Try body (h₀ :: hds) [] [] pos) (fun D σ H => tb (wClauses K Wout D l) D σ H) := by
  subst hK
  refine ⟨fun pins s σ H D I h => ?_⟩
  have ok := I.ok
  have hfr : X.A.frames = some (X.env :: X.outer) := by rw [ok.frames, hs]
  refine wpAny_Try_except ?_
  refine wpAny_mono ((hb (wClauses X.K Wout D l) (X.pn ++ pins) (fun e s₁ => wpAny (model X.prog X.w) X.A (noteFrame e X.env) (fun _ s₂ => wpAny (model X.prog X.w) X.A (setFlight e none) (fun _ s₃ =>
    wpAny (model X.prog X.w) X.A (handleBy e X.env (h₀ :: hds)) (SP X pins D) X.xe s₃) X.xe s₂) X.xe s₁) (fun u s' xx => ?_) PassesOwn.looking).run [] s σ H D (I.toTry _) h) (fun f s1 hsp => ?_) (fun e s1 he => he)
  · obtain ⟨a, Bg, sI, pins', σ', H', cls, d, rfl, J', nb, up, sky, na, os, ag, ww⟩ := xx
    have J : Inv X pins σ' H' sI := J'.ofTry ok
    have sky' : Sky Bg (X.env :: X.outer) a (Zc cls d) X.env.locals s'.heap := by rw [← hs]; exact sky
    show wpAny (model X.prog X.w) X.A (noteFrame (.ref a) X.env) _ _ _
    refine Sky.land Zc.steady hfr hf sky' fun h3 fl3 up3 => ?_
    have J3 : Inv X pins σ' H' { s' with heap := h3 } := J.landed nb fl3.1 (up.trans up3) os ag
    obtain ⟨oe3, vs3, he3, hz3, hd3⟩ := fl3.there
    have nfr : a ∉ frs (X.env :: X.outer) := fun hm => by
      obtain ⟨_, o', e', hnf⟩ := fl3.2.2.1.mem hm
      rw [he3] at e'
      cases e'
      exact hnf _ hd3
    have nL : a ≠ X.env.locals := fun z => nfr (List.mem_filterMap.mpr ⟨X.env, List.mem_cons_self, by rw [hf, z]⟩)
    have nF : a ∉ X.fs := fun hm => by
      obtain ⟨e, he, q⟩ := List.mem_filterMap.mp hm
      exact nfr (List.mem_filterMap.mpr ⟨e, List.mem_cons_of_mem _ he, q⟩)
    have S3 := J3.suite he3 hd3 na nL nF
    have test : ∀ {x : Str} {c : Value} {np : Pos} {Q : Value → Shared → Prop} {E : Value → Shared → Prop}, Names X x c → Q c { s' with heap := h3 } → wpAny (model X.prog X.w) (X.A.mark (some (.ref a))) (eval (.Name x np) X.env) Q E { s' with heap := h3 } := fun {x c np Q E} hc q => by
      obtain ⟨hg, hdbg, hm | ⟨hm, hv, hnn⟩⟩ := hc
      · exact ld_glob (X := X.suite a ((a, oe3) :: (X.pn ++ pins))) S3 hg hm q hdbg
      · exact ld_blt (X := X.suite a ((a, oe3) :: (X.pn ++ pins))) S3 hg hm hv q hnn hdbg
    have LT : PySem.W.Looks (model X.prog X.w) h3 (typeOf (.ref a)) cls := fun A Q E s k q => wpAny_typeOf_ref (k _ _ he3) (by rw [hz3.1]; exact q)
    have go : ∀ {hds' : List ExceptHandler} {l' : List Clause}, Clauses X hds' l' → wClauses X.K Wout D l' cls d σ' H' →
        wpAny (model X.prog X.w) X.A (handleBy (.ref a) X.env hds') (SP X pins D) X.xe { s' with heap := h3 } := by
      intro hds' l' hk
      induction hk with
      | nil =>
        intro ww
        refine wpAny_handleBy_nil ?_
        obtain ⟨k1, k2, k3, oe, vs, T, oT, ts', he, hz, hd, h1, hr⟩ := id fl3
        unfold PySem.passOn
        refine wpAny_bind (wpAny_field he hd h1 ?_)
        rw [if_neg (show ¬ ((Value.ref T == Value.none) = true) from by simp)]
        have fin : wpAny (model X.prog X.w) X.A (setFlight (.ref a) X.env.frame) (fun _ s4 => wpAny (model X.prog X.w) X.A (throw (.ref a) : Sem Flow) (SP X pins D) X.xe s4) X.xe { s' with heap := h3 } := by
          rw [hf]
          refine HandSPX.setFlight_upZ fl3 fun h4 hh4 up4 => wpAny_throw (tk _ _ ?_)
          exact ⟨a, Bg, sI, pins, σ', H', cls, d, rfl, J, nb, (up.trans up3).trans up4, .inr (.inr (by rw [hs]; exact hh4)), na, os, ag, ww⟩
        first
          | exact wpAny_bind (wpAny_pure (wpAny_bind fin))
          | exact wpAny_bind fin
      | @bare x c ts b₀ suite np pos' hds2 l2 hc hsu r ih =>
        intro ww
        obtain ⟨b, hb1, hyes, hno⟩ := ww
        refine wpAny_handleBy_cons (codeAny_handlers_test ?_) (by intro q; cases q)
        have LM := PySem.W.exm_one (M := model X.prog X.w) (J3.kIn) LT hb1
        refine test hc (LM.here ?_)
        cases b with
        | true =>
          refine codeAny_handlers_suite (HandSPX.lands_againZ fl3 fun h4 fl4 up4 => ?_)
          have J4 : Inv X pins σ' H' { s' with heap := h4 } := J.landed nb fl4.1 ((up.trans up3).trans up4) os ag
          obtain ⟨oe4, vs4, he4, hz4, hd4⟩ := fl4.there
          have S4 := J4.suite he4 hd4 na nL nF
          refine wpAny_mono ((hsu a oe4 cls d (X.pn ++ pins) hz4 ⟨_, hd4⟩).run [] _ _ H' _ S4 (hyes rfl a na)) (fun f s6 hsp => ?_) (fun _ _ z => False.elim z)
          cases f with
          | ret u =>
            obtain ⟨v6, σ6, H6, S6, r6, q6⟩ := hsp
            exact ⟨_, _, _, S6.unsuite ok, r6, q6⟩
          | _ =>
            obtain ⟨σ6, H6, S6, q6⟩ := hsp
            exact ⟨_, _, S6.unsuite ok, q6⟩
        | false =>
          show wpAny _ X.A (handleBy (.ref a) X.env hds2) _ _ _
          exact ih (hno rfl)
      | @named x n i c ts b₀ suite np pos' hds2 l2 hi hln hc hsu r ih =>
        intro ww
        obtain ⟨b, hb1, hyes, hno⟩ := ww
        refine wpAny_handleBy_cons (codeAny_handlers_test ?_) (by intro q; cases q)
        have LM := PySem.W.exm_one (M := model X.prog X.w) (J3.kIn) LT hb1
        refine test hc (LM.here ?_)
        cases b with
        | true =>
          refine codeAny_handlers_suite_as (HandSPX.lands_againZ fl3 fun h4 fl4 up4 => ?_)
          have J4 : Inv X pins σ' H' { s' with heap := h4 } := J.landed nb fl4.1 ((up.trans up3).trans up4) os ag
          obtain ⟨oe4, vs4, he4, hz4, hd4⟩ := fl4.there
          have S4 := J4.suite he4 hd4 na nL nF
          refine store_ok (X := X.suite a ((a, oe4) :: (X.pn ++ pins))) (v := .ref a) S4 hN hi (.inl hln) rfl (fun s5 S5 => ?_) (.inr hln)
          refine wpAny_mono ((hsu a oe4 cls d (X.pn ++ pins) hz4 ⟨_, hd4⟩).run [] s5 _ H' _ S5 (hyes rfl a na)) (fun f s6 hsp => ?_) (fun _ _ z => False.elim z)
          have end_ : ∀ {σ6 : St} {H6 : Hp} {Q : Shared → Prop}, Inv (X.suite a ((a, oe4) :: (X.pn ++ pins))) [] σ6 H6 s6 → (∀ s7, Inv X pins (σ6.set i none) H6 s7 → Q s7) →
              wpAny (model X.prog X.w) X.A (do bindName X.env n .none; unbindBehindTheSuite X.env n pos') (fun _ s7 => Q s7) X.xe s6 := fun {σ6 H6 Q} S6 hq => gone_ok (S6.unsuite ok) hN hi hln hq
          cases f with
          | ret u =>
            obtain ⟨v6, σ6, H6, S6, r6, q6⟩ := hsp
            exact end_ S6 fun s7 J7 => ⟨_, _, _, J7, r6, q6⟩
          | next =>
            obtain ⟨σ6, H6, S6, q6⟩ := hsp
            exact end_ S6 fun s7 J7 => ⟨_, _, J7, q6⟩
          | brk =>
            obtain ⟨σ6, H6, S6, q6⟩ := hsp
            exact end_ S6 fun s7 J7 => ⟨_, _, J7, q6⟩
          | cont =>
            obtain ⟨σ6, H6, S6, q6⟩ := hsp
            exact end_ S6 fun s7 J7 => ⟨_, _, J7, q6⟩
        | false =>
          show wpAny _ X.A (handleBy (.ref a) X.env hds2) _ _ _
          exact ih (hno rfl)
    exact go hh ww
  · cases f with
    | next =>
      obtain ⟨σ', H', J', q⟩ := hsp
      exact wpAny_execs_nil ⟨σ', H', J'.ofTry ok, q⟩
    | brk =>
      obtain ⟨σ', H', J', q⟩ := hsp
      exact ⟨σ', H', J'.ofTry ok, q⟩
    | cont =>
      obtain ⟨σ', H', J', q⟩ := hsp
      exact ⟨σ', H', J'.ofTry ok, q⟩
    | ret u =>
      obtain ⟨v, σ', H', J', r, q⟩ := hsp
      exact ⟨v, σ', H', J'.ofTry ok, r, q⟩
end
end L2

set_option Elab.async false
set_option linter.all false
set_option maxRecDepth 100000
set_option maxHeartbeats 4000000
/-! Defs by their names; the built-ins that the texts use; a module's constants. -/
namespace L2
open PySem PySem.Spec PyProof.Rows PySem.HErr
/-- none of these built-ins is shadowed -/
structure Bl (mg : Str → Option Value) : Prop where
  len : mg "len" = none
  range : mg "range" = none
  abs : mg "abs" = none
  sum : mg "sum" = none
  sorted : mg "sorted" = none
  isinstance : mg "isinstance" = none
  zip : mg "zip" = none
  enumerate : mg "enumerate" = none
  reversed : mg "reversed" = none
  int' : mg "int" = none
  str' : mg "str" = none
  list' : mg "list" = none
  tuple' : mg "tuple" = none
  bool' : mg "bool" = none
  all' : mg "all" = none
  any' : mg "any" = none
  ValueError : mg "ValueError" = none
/-- the module's name x is the value v -/
def Glo (mg : Str → Option Value) (x : Str) (v : V) : Prop := ∃ u, mg x = some u ∧ RelV v u
/-- a def of the text stands where its name says -/
structure Src (K : PySem.W.Frag) (mg : Str → Option Value) (x : Str) (st : Stmt) (ps : List Str) : Prop where
  ex : ∃ f fd, Fun K x x st f fd ∧ mg x = some (.ref f) ∧ Binds K fd ps []
/-- the def x keeps the promise sp -/
structure Def (P : Program) (w : World) (K : PySem.W.Frag) (mg : Str → Option Value) (base : Heap) (CX : CXT) (k : Nat) (x : Str) (ps : List Str) (sp : Sp) : Prop where
  ex : ∃ f fd, mg x = some (.ref f) ∧ PySem.W.keepIn K (.ref f) = true ∧ Binds K fd ps [] ∧ FnOk P w K mg base CX k f fd ps sp
section
variable {P : Program} {w : World} {K : PySem.W.Frag} {mg : Str → Option Value} {base : Heap} {CX : CXT} {x : Str} {st : Stmt} {N ps : List Str} {k : Nat} {sp : Sp}
theorem Def.mono {j : Nat} (D : Def P w K mg base CX j x ps sp) (h : j ≤ k) : Def P w K mg base CX k x ps sp := by
  obtain ⟨f, fd, h1, h2, h3, h4⟩ := D.ex
  exact ⟨f, fd, h1, h2, h3, h4.mono h⟩
theorem Def.imp {sp' : Sp} (D : Def P w K mg base CX k x ps sp) (h : ∀ vs H Q E, sp' vs H Q E → sp vs H Q E) : Def P w K mg base CX k x ps sp' := by
  obtain ⟨f, fd, h1, h2, h3, h4⟩ := D.ex
  exact ⟨f, fd, h1, h2, h3, h4.imp h⟩
theorem Src.ok (F : Src K mg x st ps) (S : FnScope N ps (defScope st)) (len : ∀ vs H Q E, sp vs H Q E → vs.length = ps.length)
    (hbody : ∀ (f : Addr) (cdv : Value) (A : Around) (outer : List Env) (s : Shared) (H : Hp) (vs : List V) (Q : VK) (E : XK), Room k (A.deeper (envOfC x (defScope st) s.heap.objs.size f cdv)) → sp vs H Q E →
      ∃ t, PSs (cxOf CX0 P w K mg base N x (defScope st) f cdv A outer s H E).nox (defBody st) t ∧ t { nx := fun _ H' => Q .non H', rt := Q } (start N vs) H) : Def P w K mg base CX0 (k + 1) x ps sp := by
  obtain ⟨f, fd, h1, h2, h3⟩ := F.ex
  exact ⟨f, fd, h2, h1.kp, h3, h1.ok S len (hbody f)⟩
theorem Src.okX (F : Src K mg x st ps) (S : FnScope N ps (defScope st)) (len : ∀ vs H Q E, sp vs H Q E → vs.length = ps.length)
    (hbody : ∀ (f : Addr) (cdv : Value) (A : Around) (outer : List Env) (s : Shared) (H : Hp) (vs : List V) (Q : VK) (E : XK), Room k (A.deeper (envOfC x (defScope st) s.heap.objs.size f cdv)) → sp vs H Q E →
      ∃ t, PSs (cxOf (L2.CX P w) P w K mg base N x (defScope st) f cdv A outer s H E) (defBody st) t ∧ t { nx := fun _ H' => Q .non H', rt := Q } (start N vs) H) : Def P w K mg base (L2.CX P w) (k + 1) x ps sp := by
  obtain ⟨f, fd, h1, h2, h3⟩ := F.ex
  exact ⟨f, fd, h2, h1.kp, h3, h1.okX S len (hbody f)⟩
end
section
variable {X : Cx} {CX : CXT} {k : Nat} {ps : List Str} {sp : Sp} {x : Str} {p pos : Pos} {e : Expr} {es : List Expr} {t : TA}
theorem pe_def {E : XK} (D : Def X.prog X.w X.K X.mg X.base CX k x ps sp) (hr : Room k X.A) (hx : Passes CX X E) (ha : PA X (e :: es) t) (hg : Gl X x := by rfl)
    (hdb : (x == ("__debug__" : Str)) = false := by decide) (he : starEach (e :: es) X.env = (false, eval e X.env) :: starEach es X.env := by rfl) (hpl : (backTo pos (starEach es X.env)).any (·.1) = false := by rfl) :
    PE X (.Call (.Name x p) (e :: es) [] pos) (tCall sp [] E t) := by
  obtain ⟨f, fd, h1, h2, h3, h4⟩ := D.ex
  exact pe_call h4 hr hg h1 h2 h3 .nil hx ha hdb he hpl
theorem pe_def0 {E : XK} (D : Def X.prog X.w X.K X.mg X.base CX k x ps sp) (hr : Room k X.A) (hx : Passes CX X E) (hg : Gl X x := by rfl)
    (hdb : (x == ("__debug__" : Str)) = false := by decide) : PE X (.Call (.Name x p) [] [] pos) (tCall sp [] E tNil) := by
  obtain ⟨f, fd, h1, h2, h3, h4⟩ := D.ex
  exact pe_call0 h4 hr hg h1 h2 h3 .nil hx hdb
theorem pe_defS {E : St → XK} (D : Def X.prog X.w X.K X.mg X.base CX k x ps sp) (hr : Room k X.A) (hx : ∀ σ, PassesAt CX X σ (E σ)) (ha : PA X (e :: es) t) (hg : Gl X x := by rfl)
    (hdb : (x == ("__debug__" : Str)) = false := by decide) (he : starEach (e :: es) X.env = (false, eval e X.env) :: starEach es X.env := by rfl) (hpl : (backTo pos (starEach es X.env)).any (·.1) = false := by rfl) :
    PE X (.Call (.Name x p) (e :: es) [] pos) (tCallS sp E t) := by
  obtain ⟨f, fd, h1, h2, h3, h4⟩ := D.ex
  exact pe_callS h4 hr hg h1 h2 h3 hx ha hdb he hpl
theorem pe_glo {v : V} (h : Glo X.mg x v) (hg : Gl X x := by rfl) (hd : (x == ("__debug__" : Str)) = false := by decide) : PE X (.Name x p) (tC v) := by
  obtain ⟨u, h1, h2⟩ := h
  exact pe_glob hg h1 h2 hd
end
/-! the rules that speak of the written part, with its letter told -/
section
variable {X : Cx} {K : PySem.W.Frag}
def rLenQ (K : PySem.W.Frag) : List V → Hp → VK → Prop := fun xs H Q => ∃ p ys, xs = [.ref p] ∧ (SqL K H p ys ∨ SqT K H p ys) ∧ Q (.int ys.length) H
def rListQ (K : PySem.W.Frag) : List V → Hp → VK → Prop := fun xs H Q => ∃ p ys, xs = [.ref p] ∧ (SqL K H p ys ∨ SqT K H p ys) ∧ ∀ l, H l = none → Q (.ref l) (upd H l (.lst ys))
def rTupQ (K : PySem.W.Frag) : List V → Hp → VK → Prop := fun xs H Q => ∃ p ys, xs = [.ref p] ∧ ((SqL K H p ys ∧ ∀ l, H l = none → Q (.ref l) (upd H l (.tup ys))) ∨ (SqT K H p ys ∧ Q (.ref p) H))
theorem kix_list (h : X.K = K := by rfl) : IxR X (rIxL K) := h ▸ ix_list
theorem kix_tup (h : X.K = K := by rfl) : IxR X (rIxT K) := h ▸ ix_tup
theorem kix_seq (h : X.K = K := by rfl) : IxR X (rIx K) := h ▸ ix_seq
theorem ksl_list (h : X.K = K := by rfl) : SlR X (rSlL K) := h ▸ sl_list
theorem ksl_tup (h : X.K = K := by rfl) : SlR X (rSlT K) := h ▸ sl_tup
theorem kop_in (h : X.K = K := by rfl) : OpR X (compareOp .In) (rIn K false) := h ▸ op_in_seq
theorem kop_notIn (h : X.K = K := by rfl) : OpR X (compareOp .NotIn) (rIn K true) := h ▸ op_notIn_seq
theorem kop_eqD (hu : X.A.units + 64 < cLine) (h : X.K = K := by rfl) : OpR X (compareOp .Eq) (rEqD K) := h ▸ op_eqD hu
theorem kop_neD (hu : X.A.units + 64 < cLine) (h : X.K = K := by rfl) : OpR X (compareOp .NotEq) (rNeD K) := h ▸ op_neD hu
theorem kop_catT (h : X.K = K := by rfl) : OpR X (binaryOp .Add) (rCatT K) := h ▸ op_catT
theorem kcall_len (h : X.K = K := by rfl) : CallR X (.builtin "len") (rLenQ K) := h ▸ call_len_seq
theorem kcall_list (h : X.K = K := by rfl) : CallR X (.type "list") (rListQ K) := h ▸ call_list_of
theorem kcall_tuple (h : X.K = K := by rfl) : CallR X (.type "tuple") (rTupQ K) := h ▸ call_tuple_of
theorem kcr_sum (hc : X.calm = true) (h : X.K = K := by rfl) : CallR X (.builtin "sum") (rSum K) := h ▸ cr_sum hc
theorem kcr_any (hc : X.calm = true) (h : X.K = K := by rfl) : CallR X (.builtin "any") (rAny K) := h ▸ cr_any hc
theorem kcr_all (hc : X.calm = true) (h : X.K = K := by rfl) : CallR X (.builtin "all") (rAll K) := h ▸ cr_all hc
theorem kcall_isi (h : X.K = K := by rfl) : CallR X (.builtin "isinstance") (rIsi K) := h ▸ call_isi
theorem kpi_list {tg l : Expr} {tl : TE} (hl : PE X l tl) (h : X.K = K := by rfl) : PI X tg l (iList K tl) := h ▸ pi_list hl
theorem kpi_tup {tg l : Expr} {tl : TE} (hl : PE X l tl) (h : X.K = K := by rfl) : PI X tg l (iTup K tl) := h ▸ pi_tup hl
theorem kpe_fld {e : Expr} {f : Str} {pos : Pos} {ta : TE} (he : PE X e ta) (hb : attributeBase e f X.env (eval e X.env) = eval e X.env := by rfl) (h : X.K = K := by rfl) : PE X (.Attribute e f pos) (tFld K ta f) := h ▸ pe_fld he hb
end
/-- a comprehension without an if; with one -/
theorem yes_if {σ : St} {H : Hp} {A B : Hp → Prop} (h : A H) : tYes σ H (fun b H3 => if b = true then A H3 else B H3) := by
  show (if true = true then A H else B H)
  rw [if_pos rfl]
  exact h
/-! ### heaps -/
theorem same_upd {H : Hp} {p : Addr} {o : HO} (h : H p = none) : Same H (upd H p o) := fun b x e => by
  rw [upd_ne (ne_of_none e h)]
  exact e
theorem upd_twice {H : Hp} {b : Addr} {o o' : HO} : upd (upd H b o) b o' = upd H b o' := by
  funext a
  by_cases ha : a = b
  · rw [ha, upd_same, upd_same]
  · rw [upd_ne ha, upd_ne ha, upd_ne ha]
theorem upd_self' {H : Hp} {b : Addr} {o : HO} (h : H b = some o) : upd H b o = H := by
  funext a
  by_cases ha : a = b
  · rw [ha, upd_same, h]
  · rw [upd_ne ha]
/-- all that was tracked is as it was, but for what stands at b -/
def SameB (b : Addr) (H H' : Hp) : Prop := ∀ a o, a ≠ b → H a = some o → H' a = some o
theorem SameB.refl (b : Addr) (H : Hp) : SameB b H H := fun _ _ _ h => h
theorem SameB.trans {b : Addr} {H H1 H2 : Hp} (x : SameB b H H1) (y : SameB b H1 H2) : SameB b H H2 := fun a o n h => y a o n (x a o n h)
theorem Same.b {b : Addr} {H H' : Hp} (h : Same H H') : SameB b H H' := fun a o _ e => h a o e
theorem SameB.upd {b : Addr} {H H' : Hp} {o : HO} (h : SameB b H H') : SameB b H (upd H' b o) := fun a u n e => by
  rw [upd_ne n]
  exact h a u n e
theorem SameB.new {b p : Addr} {H H' : Hp} {o : HO} (h : SameB b H H') (n : H' p = none) : SameB b H (L2.upd H' p o) := fun a u hn e => by
  have := h a u hn e
  rw [upd_ne (ne_of_none this n)]
  exact this
/-- an object that H does not know may change -/
theorem SameB.mut {b p : Addr} {H H' : Hp} {o : HO} (h : SameB b H H') (n : H p = none) : SameB b H (L2.upd H' p o) := fun a u hn e => by
  rw [upd_ne (ne_of_none e n)]
  exact h a u hn e
theorem SameB.free {b l : Addr} {H H' : Hp} (e : SameB b H H') (hb : l ≠ b) (h : H' l = none) : H l = none := by
  cases q : H l with
  | none => rfl
  | some o =>
    rw [e l o hb q] at h
    cases h
theorem SameB.seq {K : PySem.W.Frag} {b : Addr} {H H' : Hp} {a : Addr} {xs : List V} (e : SameB b H H') (n : a ≠ b) (h : SqL K H a xs) : SqL K H' a xs := by
  rcases h with (h | ⟨o, h⟩) | h
  · exact .inl (.inl (e _ _ n h))
  · exact .inl (.inr ⟨o, e _ _ n h⟩)
  · exact .inr h
/-- an error of the class at C with these fields is what E wants, whatever was made meanwhile -/
def Rais (E : XK) (H : Hp) (C : Addr) (fs : List (Str × V)) : Prop := ∀ H' d, Same H H' → H d = none → H' d = some (.xd fs) → E (.ref C) (some d) H'
theorem Rais.go {E : XK} {H H' : Hp} {C d : Addr} {fs : List (Str × V)} (h : Rais E H C fs) (sm : Same H H') (n : H' d = none) : E (.ref C) (some d) (upd H' d (.xd fs)) :=
  h _ d (sm.trans (same_upd n)) (sm.free n) upd_same
/-- the law's box of draws stands at b, its script at l -/
structure Box (H : Hp) (b l : Addr) : Prop where
  ex : ∃ (ns : List Int) (i c r : Int), H b = some (.lst [.int i, .int c, .int r, .ref l]) ∧ H l = some (.lst (ns.map V.int)) ∧ 0 ≤ i ∧ l ≠ b
theorem Box.keep {H H' : Hp} {b l : Addr} (h : Box H b l) (e : Same H H') : Box H' b l := by
  obtain ⟨ns, i, c, r, h1, h2, h3, h4⟩ := h.ex
  exact ⟨ns, i, c, r, e _ _ h1, e _ _ h2, h3, h4⟩
theorem Box.neb {H : Hp} {b l p : Addr} (h : Box H b l) (n : H p = none) : p ≠ b := fun e => by
  obtain ⟨ns, i, c, r, h1, h2, h3, h4⟩ := h.ex
  rw [e, h1] at n
  cases n
theorem Box.nel {H : Hp} {b l p : Addr} (h : Box H b l) (n : H p = none) : p ≠ l := fun e => by
  obtain ⟨ns, i, c, r, h1, h2, h3, h4⟩ := h.ex
  rw [e, h2] at n
  cases n
theorem Box.mut {H : Hp} {b l p : Addr} {o : HO} (h : Box H b l) (nb : p ≠ b) (nl : p ≠ l) : Box (upd H p o) b l := by
  obtain ⟨ns, i, c, r, h1, h2, h3, h4⟩ := h.ex
  exact ⟨ns, i, c, r, by rw [upd_ne (Ne.symm nb)]; exact h1, by rw [upd_ne (Ne.symm nl)]; exact h2, h3, h4⟩
/-- from H to H' only draws were taken and new objects made -/
structure Bx (b l : Addr) (H H' : Hp) : Prop where
  sm : SameB b H H'
  b0 : Box H b l
  b1 : Box H' b l
theorem Box.bx {H : Hp} {b l : Addr} (h : Box H b l) : Bx b l H H := ⟨SameB.refl b H, h, h⟩
theorem Bx.trans {b l : Addr} {H H1 H2 : Hp} (x : Bx b l H H1) (y : Bx b l H1 H2) : Bx b l H H2 := ⟨x.sm.trans y.sm, x.b0, y.b1⟩
theorem Bx.same {b l : Addr} {H H1 H2 : Hp} (x : Bx b l H H1) (y : Same H1 H2) : Bx b l H H2 := ⟨x.sm.trans y.b, x.b0, x.b1.keep y⟩
theorem Bx.new {b l p : Addr} {H H' : Hp} {o : HO} (x : Bx b l H H') (n : H' p = none) : Bx b l H (upd H' p o) := x.same (same_upd n)
theorem Bx.mut {b l p : Addr} {H H' : Hp} {o : HO} (x : Bx b l H H') (n : H p = none) : Bx b l H (upd H' p o) := ⟨x.sm.mut n, x.b0, x.b1.mut (x.b0.neb n) (x.b0.nel n)⟩
theorem Bx.free {b l p : Addr} {H H' : Hp} (x : Bx b l H H') (n : H' p = none) : H p = none := x.sm.free (x.b1.neb n) n
theorem Bx.at {b l a : Addr} {H H' : Hp} {o : HO} (x : Bx b l H H') (h : H a = some o) (n : a ≠ b) : H' a = some o := x.sm a o n h
theorem Bx.seq {K : PySem.W.Frag} {b l : Addr} {H H' : Hp} {a : Addr} {xs : List V} (x : Bx b l H H') (n : a ≠ b) (h : SqL K H a xs) : SqL K H' a xs := x.sm.seq n h
/-- _law_next(box, many) -/
def spNext : Sp := fun vs H Q _ => ∃ (b l : Addr) (many : Int), vs = [.ref b, .int many] ∧ 0 < many ∧ many ≤ 10 ^ 40 ∧ Box H b l ∧ ∀ (n : Int) (H' : Hp), 0 ≤ n → n < many → Bx b l H H' → Q (.int n) H'
/-- _law_box(script) -/
def spBox (K : PySem.W.Frag) : Sp := fun vs H Q _ => ∃ (a : Addr) (ns : List Int), vs = [.ref a] ∧ SqL K H a (ns.map V.int) ∧ ns.length ≤ 63 ∧ ∀ (b l : Addr) (H' : Hp), H b = none → Same H H' → Box H' b l → Q (.ref b) H'
/-! ### plain data: no bools, no dicts -/
/-- a text of ASCII signs -/
def Asc (z : Str) : Prop := ∀ c ∈ z.cps.toList, c < 128
theorem Asc.ok {z : Str} (h : Asc z) : PyData.strOk z = true := by
  unfold PyData.strOk
  rw [← Array.all_toList, List.all_eq_true]
  intro c hc
  have := h c hc
  exact decide_eq_true (by omega)
theorem Asc.app {x y : Str} (hx : Asc x) (hy : Asc y) : Asc (x ++ y) := by
  intro c hc
  rw [Str.cps_append, Array.toList_append] at hc
  rcases List.mem_append.mp hc with h | h
  · exact hx c h
  · exact hy c h
theorem Asc.one {c : Nat} (h : c < 128) : Asc ⟨#[c]⟩ := by
  intro d hd
  have : d = c := by simpa using hd
  omega
theorem Asc.cut {z : Str} (h : Asc z) (lo hi : Option Int) : Asc (cutS z lo hi) := by
  intro c hc
  unfold cutS at hc
  exact h c (List.mem_of_mem_drop (List.mem_of_mem_take (by simpa using hc)))
mutual
def nb : PyData → Bool
  | .none => true
  | .int _ => true
  | .str x => PyData.strOk x
  | .list xs => nbAll xs
  | .tuple xs => nbAll xs
  | .bool _ => false
  | .dict _ => false
def nbAll : List PyData → Bool
  | [] => true
  | x :: xs => nb x && nbAll xs
end
mutual
theorem lay_nb : ∀ d : PyData, nb d = true → PyData.canLay0 d = true
  | .none, _ => by simp only [PyData.canLay0]
  | .int _, _ => by simp only [PyData.canLay0]
  | .str x, h => by simp only [nb] at h; simp only [PyData.canLay0, h]
  | .list xs, h => by simp only [nb] at h; simp only [PyData.canLay0]; exact lay_nbAll xs h
  | .tuple xs, h => by simp only [nb] at h; simp only [PyData.canLay0]; exact lay_nbAll xs h
  | .bool _, h => by simp only [nb] at h; cases h
  | .dict _, h => by simp only [nb] at h; cases h
theorem lay_nbAll : ∀ ds : List PyData, nbAll ds = true → PyData.canLayAll0 ds = true
  | [], _ => by simp only [PyData.canLayAll0]
  | x :: xs, h => by
    simp only [nbAll, Bool.and_eq_true] at h
    simp only [PyData.canLayAll0, lay_nb x h.1, lay_nbAll xs h.2, Bool.and_self]
end
mutual
theorem eqv_nb : ∀ d e : PyData, nb d = true → nb e = true → (PyData.eqv d e = true ↔ d = e)
  | .none, e, _, he => by cases e <;> simp [PyData.eqv]
  | .int i, e, _, he => by cases e <;> simp [PyData.eqv, nb] at he ⊢
  | .str x, e, _, he => by cases e <;> simp [PyData.eqv]
  | .list xs, e, hd, he => by
    cases e with
    | list ys =>
      simp only [nb] at hd he
      simp only [PyData.eqv, eqv_nbAll xs ys hd he, PyData.list.injEq]
    | _ => simp [PyData.eqv]
  | .tuple xs, e, hd, he => by
    cases e with
    | tuple ys =>
      simp only [nb] at hd he
      simp only [PyData.eqv, eqv_nbAll xs ys hd he, PyData.tuple.injEq]
    | _ => simp [PyData.eqv]
  | .bool _, _, h, _ => by simp only [nb] at h; cases h
  | .dict _, _, h, _ => by simp only [nb] at h; cases h
theorem eqv_nbAll : ∀ ds es : List PyData, nbAll ds = true → nbAll es = true → (PyData.eqvAll ds es = true ↔ ds = es)
  | [], [], _, _ => by simp [PyData.eqvAll]
  | [], _ :: _, _, _ => by simp [PyData.eqvAll]
  | _ :: _, [], _, _ => by simp [PyData.eqvAll]
  | x :: xs, y :: ys, hd, he => by
    simp only [nbAll, Bool.and_eq_true] at hd he
    simp only [PyData.eqvAll, Bool.and_eq_true, eqv_nb x y hd.1 he.1, eqv_nbAll xs ys hd.2 he.2, List.cons.injEq]
end
theorem eqv_dec {d e : PyData} (hd : nb d = true) (he : nb e = true) : (PyData.eqv d e = true) = (d = e) := propext (eqv_nb d e hd he)
theorem eqv_self {d : PyData} (hd : nb d = true) : PyData.eqv d d = true := (eqv_nb d d hd hd).mpr rfl
theorem eqv_ne {d e : PyData} (hd : nb d = true) (he : nb e = true) (h : d ≠ e) : PyData.eqv d e = false := by
  cases q : PyData.eqv d e with
  | false => rfl
  | true => exact absurd ((eqv_nb d e hd he).mp q) h
theorem nbAll_of : ∀ {ds : List PyData}, (∀ d ∈ ds, nb d = true) → nbAll ds = true
  | [], _ => rfl
  | d :: ds, h => by
    show (nb d && nbAll ds) = true
    rw [h d (List.mem_cons_self ..), nbAll_of fun x hx => h x (List.mem_cons_of_mem _ hx)]
    rfl
theorem depthAll_le {n : Nat} : ∀ {ds : List PyData}, (∀ d ∈ ds, d.depth ≤ n) → PyData.depthAll ds ≤ n
  | [], _ => by simp [PyData.depthAll]
  | d :: ds, h => by
    simp only [PyData.depthAll]
    exact Nat.max_le.mpr ⟨h d (List.mem_cons_self ..), depthAll_le fun x hx => h x (List.mem_cons_of_mem _ hx)⟩
theorem shaped_of {d : PyData} (h : nb d = true) (hd : d.depth ≤ 64) : SeqAt.shaped d = true := by
  unfold SeqAt.shaped
  rw [lay_nb d h, decide_eq_true hd]
  rfl
/-- a list of texts as data -/
abbrev dStrs (l : List Str) : PyData := .list (l.map .str)
theorem dpall_strs {K : PySem.W.Frag} {H : Hp} : ∀ l : List Str, DpAll K H (l.map V.str) (l.map PyData.str)
  | [] => .nil
  | _ :: l => .cons (.str _) (dpall_strs l)
theorem nb_strs {l : List Str} (h : ∀ z ∈ l, Asc z) : nbAll (l.map PyData.str) = true := nbAll_of fun d hd => by
  obtain ⟨z, hz, rfl⟩ := List.mem_map.mp hd
  show PyData.strOk z = true
  exact (h z hz).ok
theorem depth_strs (l : List Str) : PyData.depthAll (l.map PyData.str) ≤ 0 := depthAll_le fun d hd => by
  obtain ⟨z, hz, rfl⟩ := List.mem_map.mp hd
  simp [PyData.depth]
/-! ### lists of texts -/
theorem inV_strs (n : Str) (ws : List Str) : inV (.str n) (ws.map V.str) = decide (n ∈ ws) := by
  unfold inV
  rw [Bool.eq_iff_iff, List.any_eq_true, decide_eq_true_iff]
  constructor
  · rintro ⟨y, hy, e⟩
    obtain ⟨z, hz, rfl⟩ := List.mem_map.mp hy
    have e : z = n := by simpa [eqV] using e
    exact e ▸ hz
  · intro h
    exact ⟨.str n, List.mem_map_of_mem h, by simp [eqV]⟩
theorem flat_strs (ws : List Str) : (ws.map V.str).all flatV = true := by
  rw [List.all_eq_true]
  intro y hy
  obtain ⟨z, hz, rfl⟩ := List.mem_map.mp hy
  rfl
theorem flat_ints (ws : List Int) : (ws.map V.int).all flatV = true := by
  rw [List.all_eq_true]
  intro y hy
  obtain ⟨z, hz, rfl⟩ := List.mem_map.mp hy
  rfl
/-- a list or a tuple -/
def Sq (K : PySem.W.Frag) (H : Hp) (a : Addr) (xs : List V) : Prop := SqL K H a xs ∨ SqT K H a xs
theorem Same.seqT {K : PySem.W.Frag} {H H' : Hp} {a : Addr} {xs : List V} (e : Same H H') (h : SqT K H a xs) : SqT K H' a xs := by
  rcases h with (h | ⟨o, h⟩) | h
  · exact .inl (.inl (e _ _ h))
  · exact .inl (.inr ⟨o, e _ _ h⟩)
  · exact .inr h
theorem Same.sq {K : PySem.W.Frag} {H H' : Hp} {a : Addr} {xs : List V} (e : Same H H') (h : Sq K H a xs) : Sq K H' a xs := h.elim (fun h => .inl (e.seq h)) (fun h => .inr (e.seqT h))
theorem map_get {α : Type} {f : α → V} {l : List α} {i : Nat} {x : V} (h : (l.map f)[i]? = some x) : ∃ z, l[i]? = some z ∧ x = f z := by
  rw [List.getElem?_map] at h
  cases e : l[i]? with
  | none => rw [e] at h; cases h
  | some z => rw [e] at h; exact ⟨z, rfl, (Option.some.inj h).symm⟩
theorem take_more {α : Type} {l : List α} {i : Nat} {x : α} (h : l[i]? = some x) : l.take (i + 1) = l.take i ++ [x] := by
  rw [List.take_add_one, h]
  rfl
theorem get_mem {α : Type} {l : List α} {i : Nat} {x : α} (h : l[i]? = some x) : x ∈ l := List.mem_of_getElem? h
theorem cutV_take (xs : List V) (n : Nat) : cutV xs none (some (n : Int)) = xs.take n := by
  unfold cutV
  rw [HT.sIx_none, HT.sIx_nat]
  show List.take (min n xs.length - 0) (List.drop 0 xs) = _
  rw [List.drop_zero, Nat.sub_zero, Nat.min_comm]
  by_cases h : n ≤ xs.length
  · rw [Nat.min_eq_right h]
  · rw [Nat.min_eq_left (by omega), List.take_length, List.take_of_length_le (by omega)]
theorem cutV_drop (xs : List V) (n : Nat) : cutV xs (some (n : Int)) none = xs.drop n := by
  unfold cutV
  rw [HT.sIx_none, HT.sIx_nat]
  by_cases h : n ≤ xs.length
  · rw [Nat.min_eq_left h]
    exact List.take_of_length_le (by rw [List.length_drop]; exact Nat.le_refl _)
  · rw [Nat.min_eq_right (by omega), List.drop_length, List.drop_of_length_le (by omega), List.take_nil]
/-! ### data stay as they are -/
section
variable {K : PySem.W.Frag} {H H' : Hp}
mutual
theorem Dp.keep (e : Same H H') : ∀ (d : PyData) (v : V), Dp K H v d → Dp K H' v d
  | .none, _, h => by cases h; exact .non
  | .bool _, _, h => by cases h; exact .bl _
  | .int _, _, h => by cases h; exact .int _
  | .str _, _, h => by cases h; exact .str _
  | .list ds, _, h => by
    cases h with
    | lst hs ha => exact .lst (e.seq hs) (DpAll.keep e ds _ ha)
  | .tuple ds, _, h => by
    cases h with
    | tup hs ha => exact .tup (e.seqT hs) (DpAll.keep e ds _ ha)
  | .dict _, _, h => by cases h
theorem DpAll.keep (e : Same H H') : ∀ (ds : List PyData) (vs : List V), DpAll K H vs ds → DpAll K H' vs ds
  | [], _, h => by cases h; exact .nil
  | d :: ds, _, h => by
    cases h with
    | cons h1 h2 => exact .cons (Dp.keep e d _ h1) (DpAll.keep e ds _ h2)
end
end
/-! ### words -/
/-! what a word is, by its code points -/
def LETTERS : Str := "abcdefghijklmnopqrstuvwxyz"
def DIGITS : Str := "0123456789"
def okc (c : Nat) : Bool := decide (c ∈ LETTERS.cps.toList) || decide (c ∈ DIGITS.cps.toList)
def wd (l : List Nat) : Bool := decide (1 ≤ l.length ∧ l.length ≤ 12) && (decide (l.headD 0 ∈ LETTERS.cps.toList) && l.all okc)
theorem len_cps (z : Str) : z.length = z.cps.toList.length := rfl
theorem all_take {α : Type} {p : α → Bool} {l : List α} {i : Nat} {c : α} (h : l[i]? = some c) : (l.take (i + 1)).map p = (l.take i).map p ++ [p c] := by
  rw [List.take_add_one, h, List.map_append]
  rfl
theorem all_id {α : Type} (p : α → Bool) (l : List α) : (l.map p).all id = l.all p := by
  rw [List.all_map]
  rfl
theorem get_lt {l : List Nat} {n : Int} (h0 : 0 ≤ n) (h1 : n < l.length) (h2 : l.all (fun c => decide (c < 128)) = true) : ∃ c, atI l n = some c ∧ c < 128 := by
  obtain ⟨j, rfl⟩ : ∃ j : Nat, n = j := ⟨n.toNat, by omega⟩
  have hj : j < l.length := by omega
  refine ⟨l[j], atI_nat (List.getElem?_eq_getElem hj), ?_⟩
  rw [List.all_eq_true] at h2
  exact of_decide_eq_true (h2 _ (List.getElem_mem hj))
theorem wd_cons {c : Nat} {r : List Nat} (hc : c ∈ LETTERS.cps.toList) (hr : ∀ d ∈ r, okc d = true) (hl : r.length ≤ 11) : wd (c :: r) = true := by
  unfold wd
  rw [decide_eq_true (show 1 ≤ (c :: r).length ∧ (c :: r).length ≤ 12 by rw [List.length_cons]; omega), Bool.true_and, List.headD_cons, decide_eq_true hc, Bool.true_and, List.all_cons, Bool.and_eq_true]
  refine ⟨?_, List.all_eq_true.mpr hr⟩
  unfold okc
  rw [decide_eq_true hc, Bool.true_or]
theorem wd_inv {l : List Nat} (h : wd l = true) : ∃ c r, l = c :: r ∧ c ∈ LETTERS.cps.toList ∧ (∀ d ∈ l, okc d = true) ∧ l.length ≤ 12 := by
  unfold wd at h
  rw [Bool.and_eq_true, Bool.and_eq_true] at h
  obtain ⟨h1, h2, h3⟩ := h
  have h1 := of_decide_eq_true h1
  have h2 := of_decide_eq_true h2
  cases l with
  | nil => exact absurd h1.1 (by decide)
  | cons c r => exact ⟨c, r, rfl, h2, List.all_eq_true.mp h3, h1.2⟩
theorem okc_lt {c : Nat} (h : okc c = true) : c < 128 := by
  unfold okc at h
  rw [Bool.or_eq_true, decide_eq_true_iff, decide_eq_true_iff] at h
  rcases h with h | h
  · exact of_decide_eq_true (List.all_eq_true.mp (show LETTERS.cps.toList.all (fun c => decide (c < 128)) = true by decide) c h)
  · exact of_decide_eq_true (List.all_eq_true.mp (show DIGITS.cps.toList.all (fun c => decide (c < 128)) = true by decide) c h)
/-- a text that is a word -/
def Wd (z : Str) : Prop := wd z.cps.toList = true
theorem Wd.asc {z : Str} (h : Wd z) : Asc z := fun c hc => by
  obtain ⟨_, _, _, _, ho, _⟩ := wd_inv h
  exact okc_lt (ho c hc)
theorem Wd.len {z : Str} (h : Wd z) : z.length ≤ 12 := by
  obtain ⟨_, _, _, _, _, hl⟩ := wd_inv h
  exact hl
/-! ### thirty spare words -/
def spare (z : Str) (k : Nat) : Str := cutS z none (some 9) ++ "x" ++ (toString (k : Int) : Str)
theorem cut_take (z : Str) (n : Nat) : (cutS z none (some (n : Int))).cps.toList = z.cps.toList.take n := by
  unfold cutS
  rw [HT.sIx_none, HT.sIx_nat]
  show (List.take (min n z.length - 0) (List.drop 0 z.cps.toList)).toArray.toList = _
  rw [List.drop_zero, Nat.sub_zero]
  show List.take (min n z.length) z.cps.toList = _
  rw [len_cps, Nat.min_comm]
  by_cases h : n ≤ z.cps.toList.length
  · rw [Nat.min_eq_right h]
  · rw [Nat.min_eq_left (by omega), List.take_length, List.take_of_length_le (by omega)]
theorem spare_cps (z : Str) (k : Nat) : (spare z k).cps.toList = z.cps.toList.take 9 ++ ([120] ++ (toString (k : Int) : Str).cps.toList) := by
  unfold spare
  rw [Str.cps_append, Array.toList_append, Str.cps_append, Array.toList_append, show (9 : Int) = ((9 : Nat) : Int) from rfl, cut_take, List.append_assoc]
  rfl
theorem digs30 : (List.range 30).all (fun k => decide ((toString (k : Int) : Str).cps.toList.length ≤ 2) && (toString (k : Int) : Str).cps.toList.all fun c => decide (c ∈ DIGITS.cps.toList)) = true := by decide +kernel
theorem digs_inj : (List.range 30).all (fun k => (List.range 30).all fun j => decide ((toString (k : Int) : Str).cps.toList = (toString (j : Int) : Str).cps.toList → k = j)) = true := by decide +kernel
theorem spare_wd {z : Str} (h : Wd z) {k : Nat} (hk : k < 30) : Wd (spare z k) := by
  obtain ⟨c, r, e, hc, ho, hl⟩ := wd_inv h
  have hd := List.all_eq_true.mp digs30 k (List.mem_range.mpr hk)
  rw [Bool.and_eq_true, decide_eq_true_iff, List.all_eq_true] at hd
  show wd (spare z k).cps.toList = true
  rw [spare_cps, e, List.take_succ_cons, List.cons_append]
  refine wd_cons hc (fun d hd' => ?_) ?_
  · rcases List.mem_append.mp hd' with h1 | h1
    · exact ho d (by rw [e]; exact List.mem_cons_of_mem _ (List.mem_of_mem_take h1))
    · rcases List.mem_append.mp h1 with h2 | h2
      · rw [List.mem_singleton.mp h2]
        decide
      · have := of_decide_eq_true (hd.2 d h2)
        unfold okc
        rw [decide_eq_true this, Bool.or_true]
  · rw [List.length_append, List.length_take, List.length_append]
    have := hd.1
    show min 8 r.length + (1 + _) ≤ 11
    omega
theorem str_ext {x y : Str} (h : x.cps.toList = y.cps.toList) : x = y := by
  obtain ⟨⟨a⟩⟩ := x
  obtain ⟨⟨b⟩⟩ := y
  have : a = b := h
  rw [this]
theorem spare_inj {z : Str} {k j : Nat} (hk : k < 30) (hj : j < 30) (h : spare z k = spare z j) : k = j := by
  have e : (spare z k).cps.toList = (spare z j).cps.toList := by rw [h]
  rw [spare_cps, spare_cps] at e
  have e2 := List.append_cancel_left (List.append_cancel_left e)
  have d := List.all_eq_true.mp (List.all_eq_true.mp digs_inj k (List.mem_range.mpr hk)) j (List.mem_range.mpr hj)
  exact of_decide_eq_true d e2
theorem nodup_sub {α : Type} [DecidableEq α] : ∀ {l m : List α}, l.Nodup → (∀ x ∈ l, x ∈ m) → l.length ≤ m.length
  | [], _, _, _ => Nat.zero_le _
  | a :: l, m, hn, hs => by
    obtain ⟨ha, hn⟩ := List.nodup_cons.mp hn
    have h1 : a ∈ m := hs a (List.mem_cons_self ..)
    have h2 : l.length ≤ (m.erase a).length := nodup_sub hn fun x hx => by
      have ne : x ≠ a := fun e => ha (e ▸ hx)
      exact (List.mem_erase_of_ne ne).mpr (hs x (List.mem_cons_of_mem _ hx))
    rw [List.length_erase_of_mem h1] at h2
    have : 0 < m.length := List.length_pos_of_mem h1
    rw [List.length_cons]
    omega
def spares (z : Str) : List Str := (List.range 30).map (spare z)
theorem spares_nodup (z : Str) : (spares z).Nodup := by
  unfold spares
  rw [List.nodup_iff_pairwise_ne, List.pairwise_map]
  refine List.Pairwise.imp_of_mem (R := fun a b => a ≠ b) (fun {a b} ha hb hab e => hab ?_) List.nodup_range
  exact spare_inj (List.mem_range.mp ha) (List.mem_range.mp hb) e
theorem spare_some {z : Str} {ws : List Str} (h : ws.length < 30) : ∃ y r, (spares z).filter (fun o => decide (o ∉ ws)) = y :: r := by
  cases e : (spares z).filter (fun o => decide (o ∉ ws)) with
  | cons y r => exact ⟨y, r, rfl⟩
  | nil =>
    have h1 := List.filter_eq_nil_iff.mp e
    have h2 : (spares z).length ≤ ws.length := nodup_sub (spares_nodup z) fun x hx => by
      have := h1 x hx
      simpa using this
    unfold spares at h2
    rw [List.length_map, List.length_range] at h2
    omega
theorem spares_wd {z y : Str} (h : Wd z) (hy : y ∈ spares z) : Wd y := by
  obtain ⟨k, hk, rfl⟩ := List.mem_map.mp hy
  exact spare_wd h (List.mem_range.mp hk)
/-! ### a list of names -/
/-- the first name at fault: true: not known; false: it occurred before -/
def chk (ks : List Str) : List Str → List Str → Option (Bool × Str)
  | _, [] => none
  | seen, n :: r => if n ∈ ks then (if n ∈ seen then some (false, n) else chk ks (seen ++ [n]) r) else some (true, n)
theorem chk_cons (ks seen : List Str) (n : Str) (r : List Str) : chk ks seen (n :: r) = if n ∈ ks then (if n ∈ seen then some (false, n) else chk ks (seen ++ [n]) r) else some (true, n) := rfl
theorem chk_none {ks : List Str} : ∀ {ws seen : List Str}, chk ks seen ws = none ↔ ws.Nodup ∧ (∀ w ∈ ws, w ∈ ks ∧ w ∉ seen)
  | [], seen => by simp [chk]
  | n :: r, seen => by
    rw [chk_cons]
    by_cases h1 : n ∈ ks
    · rw [if_pos h1]
      by_cases h2 : n ∈ seen
      · rw [if_pos h2]
        constructor
        · intro h; cases h
        · intro h; exact absurd h2 (h.2 n (List.mem_cons_self ..)).2
      · rw [if_neg h2, chk_none, List.nodup_cons]
        constructor
        · rintro ⟨a, b⟩
          refine ⟨⟨fun hn => ?_, a⟩, fun w hw => ?_⟩
          · exact (b n hn).2 (List.mem_append_right _ (List.mem_singleton.mpr rfl))
          · rcases List.mem_cons.mp hw with rfl | hw
            · exact ⟨h1, h2⟩
            · exact ⟨(b w hw).1, fun h => (b w hw).2 (List.mem_append_left _ h)⟩
        · rintro ⟨⟨a, b⟩, c⟩
          refine ⟨b, fun w hw => ⟨(c w (List.mem_cons_of_mem _ hw)).1, fun h => ?_⟩⟩
          rcases List.mem_append.mp h with h | h
          · exact (c w (List.mem_cons_of_mem _ hw)).2 h
          · rw [List.mem_singleton.mp h] at hw
            exact a hw
    · rw [if_neg h1]
      constructor
      · intro h; cases h
      · intro h; exact absurd (h.2 n (List.mem_cons_self ..)).1 h1
theorem chk_mem {ks : List Str} {b : Bool} {n : Str} : ∀ {ws seen : List Str}, chk ks seen ws = some (b, n) → n ∈ ws
  | [], _, h => by cases h
  | m :: r, seen, h => by
    rw [chk_cons] at h
    by_cases h1 : m ∈ ks
    · rw [if_pos h1] at h
      by_cases h2 : m ∈ seen
      · rw [if_pos h2] at h
        cases h
        exact List.mem_cons_self ..
      · rw [if_neg h2] at h
        exact List.mem_cons_of_mem _ (chk_mem h)
    · rw [if_neg h1] at h
      cases h
      exact List.mem_cons_self ..
/-! ### from the written part to the facts above -/
section
variable {P : Program} {K : PySem.W.Frag} {h : Heap} {mg : Str → Option Value}
theorem src_mk {x : Str} {st : Stmt} {ps : List Str} {f : Addr} {oc : Value} {od an : Option Addr} {osl : Array (Option Value)} {kV doc pm cdv ct : Value} (X : K.In h) (G : h.Ns mainGlobals mg)
    (a : PySem.W.nsIn K mainGlobals x = some (some (.ref f))) (l : K.lookup f = some ⟨oc, od, .func (PySem.W.fnOf x x (defArgs st) (defBody st) (defScope st) .none kV doc pm an cdv ct), osl⟩)
    (c : PySem.W.codeIn K cdv x = true) (k : PySem.W.keepIn K (.ref f) = true)
    (hb : ∀ (kV doc pm : Value) (an : Option Addr) (cdv ct : Value) (us : List Value), us.length = ps.length → bindArgs (PySem.W.fnOf x x (defArgs st) (defBody st) (defScope st) .none kV doc pm an cdv ct) ⟨us, []⟩ = pure (ps.zip us)) : Src K mg x st ps :=
  ⟨f, _, fun_mk l c k, PySem.W.mg_of X G a, (fun_mk (st := st) l c k).binds hb⟩
theorem glo_str {x z : Str} {t : Tok} (X : K.In h) (G : h.Ns mainGlobals mg) (a : PySem.W.nsIn K mainGlobals x = some (some (.str z t))) : Glo mg x (.str z) := ⟨_, PySem.W.mg_of X G a, t, rfl⟩
theorem glo_int {x : Str} {i : Int} {t : Tok} (X : K.In h) (G : h.Ns mainGlobals mg) (a : PySem.W.nsIn K mainGlobals x = some (some (.int i t))) : Glo mg x (.int i) := ⟨_, PySem.W.mg_of X G a, t, rfl⟩
theorem glo_ref {x : Str} {a : Addr} (X : K.In h) (G : h.Ns mainGlobals mg) (e : PySem.W.nsIn K mainGlobals x = some (some (.ref a))) : Glo mg x (.ref a) := ⟨_, PySem.W.mg_of X G e, rfl⟩
theorem err_mk {cn qual : Str} {tm : Bool} {C fI : Addr} {fs : List Str} {st : Stmt} {nm q : Str} {N : Addr} {bs bm : List Value} {sn : List Str} {sub : List Value} {ab : Bool} {col : Option Bool} {dd : Option Addr} {m0 m1 m2 m3 m5 : Option Value}
    {oc : Value} {od an : Option Addr} {osl : Array (Option Value)} {kV doc pm ct : Value} {cda cc : Addr} {ccl cl : Value} {cdd cld : Option Addr} {ccs csl : Array (Option Value)} {vs : Array Value} {file : Str} {tf : Tok} {msg : Expr} {p1 p2 p3 p4 p5 : Pos} {fp : List FP} {ar : Arg}
    (X : K.In h) (G : h.Ns mainGlobals mg) (aC : PySem.W.nsIn K mainGlobals cn = some (some (.ref C))) (aS : PySem.W.nsIn K mainGlobals "super" = some none)
    (xL : K.lookup C = some (excClassObj nm q C N bs bm true sn sub ab col dd m0 m1 m2 m3 m5 "ValueError.__new__")) (hbm : PySem.HandSPX.refsVE bm = true)
    (sa : PySem.W.findIn K (.ref C) "__setattr__" = some (some (.builtin "object.__setattr__"))) (ga : PySem.W.findIn K (.ref C) "__getattribute__" = some (some (.builtin "BaseException.__getattribute__"))) (gg : PySem.W.findIn K (.ref C) "__getattr__" = some none)
    (noN : ∀ f ∈ fs, PySem.W.findIn K (.ref C) f = some none)
    (iC : PySem.W.findIn K (.ref C) "__init__" = some (some (.ref fI))) (tI : PySem.W.typeIn K (.ref fI) = some (.type "function")) (kC : PySem.W.keepIn K (.ref C) = true)
    (exC : PySem.W.subIn K (.ref C) (.type "BaseException") = some true) (veC : PySem.W.subIn K (.ref C) (.type "ValueError") = some true) (tyC : PySem.W.typeIn K (.ref C) = some (.type "type")) (hdC : PySem.W.hasDictIn K C = true)
    (sup : PySem.W.ks_superIn K C C "__init__" = some (some (.builtin "ValueError.__init__"))) (mro : PySem.W.mroIn K C (.ref C) = some true) (su : PySem.W.subIn K (.ref C) (.ref C) = some true)
    (ca : PySem.W.findIn K (.ref C) "__class__" = some (some (.builtin "object.__class__"))) (cg : PySem.W.specialIn K (.builtin "object.__class__") "__get__" = some (some (.builtin "getset_descriptor.__get__"))) (ct' : PySem.W.takesIn K (.builtin "object.__class__") = some true)
    (mo : PySem.W.mroIn K C (.type "object") = some true) (opq : PySem.W.nsIn K cStatics "thirdparty.any" = some none)
    (top : (P.main.scope.names.lookup ("super" : Str)).isSome = false)
    (l : K.lookup fI = some ⟨oc, od, .func (PySem.W.ksFn "__init__" qual (defArgs st) (defBody st) (defScope st) .none kV doc pm an (.ref cda) ct cc), osl⟩) (c : PySem.W.codeIn K (.ref cda) qual = true)
    (lc : K.lookup cda = some ⟨ccl, cdd, .fields vs, ccs⟩) (hv2 : vs[2]? = some (.str file tf)) (hfile : ((P.main.file : Str) == file) = true) (lcc : K.lookup cc = some ⟨cl, cld, .cell (some (.ref C)), csl⟩)
    (hbody : defBody st = stS msg p1 p2 p3 p4 p5 :: fp.map stF) (har : ((defArgs st).posonlyargs ++ (defArgs st).args).head? = some ar) (hself : ar.arg = "self") (hfp : fp.map (·.1) = fs) (hpos : (p3.endLine == p4.line) = true)
    (h1 : (defScope st).names.lookup ("super" : Str) = some .globalImplicit) (h2 : (defScope st).names.lookup ("__class__" : Str) = some .free) (h3 : (defScope st).names.lookup ("self" : Str) = some .local) (h4 : ∀ f ∈ fs, (defScope st).names.lookup f = some .local) (h5 : ∀ f ∈ fs, (f == ("__debug__" : Str)) = false) (h6 : ∀ y ∈ (defScope st).names, y.2 ≠ .cell)
    (h7 : (defScope st).kind = .function) (h8 : (defScope st).isGenerator = false) (h9 : (defScope st).isCoroutine = false)
    (hbind : ∀ (kV doc pm : Value) (an : Option Addr) (cda : Addr) (ct : Value) (cc : Addr) (s : Shared) (x : Value) (us : List Value), us.length = fs.length → BindsTo s (PySem.W.ksFn "__init__" qual (defArgs st) (defBody st) (defScope st) .none kV doc pm an (.ref cda) ct cc) ⟨x :: us, []⟩ (("self", x) :: fs.zip us))
    (hlook : ∀ (x : Value) (us : List Value), us.length = fs.length → ((("self" : Str), x) :: fs.zip us).reverse.lookup ("self" : Str) = some x ∧ Paired (fun f u => ((("self" : Str), x) :: fs.zip us).reverse.lookup f = some u) fs us)
    (hmsg : (tm = false ∧ ∃ (z : Str) (i : Nat) (p : Pos), msg = .Constant (.str z) i p) ∨ tm = true ∧ ∃ (z f : Str) (i : Nat) (p p' p'' : Pos), msg = .BinOp (.Constant (.str z) i p) .Add (.Name f p') p'' ∧ z.length ≤ 100 ∧ fs.head? = some f) :
    ErrTxt P K mg tm cn C fI fs where
  cls := ⟨nm, q, N, bs, bm, sn, sub, ab, col, dd, m0, m1, m2, m3, m5, xL, hbm⟩
  sa := sa
  noN := noN
  gC := PySem.W.mg_of X G aC
  ga := ga
  gg := gg
  iC := iC
  tC := tI
  kC := kC
  exC := exC
  veC := veC
  tyC := tyC
  hdC := hdC
  sup := sup
  mro := mro
  sub := su
  ca := ca
  cg := cg
  ct := ct'
  mo := mo
  opq := opq
  msup := PySem.W.mg_none_of X G aS
  top := top
  fn := by
    rw [hbody] at l
    refine ⟨oc, od, qual, defArgs st, defScope st, msg, p1, p2, p3, p4, p5, fp, .none, kV, doc, pm, an, cda, cc, ct, osl, ar, ccl, cl, cdd, cld, ccs, csl, vs, file, tf, l, c, har, hself, lc, hv2, hfile, lcc, hfp, hpos, ⟨h1, h2, h3, h4, h5, h6⟩, ⟨h7, h8, h9⟩, ?_, hlook, hmsg⟩
    intro s x us hl
    have := hbind kV doc pm an cda ct cc s x us hl
    rw [hbody] at this
    exact this
end
end L2

set_option Elab.async false
set_option linter.all false
set_option maxRecDepth 100000
set_option maxHeartbeats 4000000
/-! Methods and new instances of own classes by their names; what is raised is wished at the slots. -/
namespace L2
open PySem PySem.Spec PyProof.Rows PySem.HErr
/-- a method of the text stands in its class -/
structure SrcM (K : PySem.W.Frag) (C : Addr) (m qual : Str) (st : Stmt) (ps : List Str) : Prop where
  ex : ∃ f fd, Fun K m qual st f fd ∧ Meth K C m f ∧ Binds K fd ps []
/-- the method m of the class at C keeps the promise sp -/
structure DefM (P : Program) (w : World) (K : PySem.W.Frag) (mg : Str → Option Value) (base : Heap) (CX : CXT) (k : Nat) (C : Addr) (m : Str) (ps : List Str) (sp : Sp) : Prop where
  ex : ∃ f fd, Meth K C m f ∧ Binds K fd ps [] ∧ FnOk P w K mg base CX k f fd ps sp
/-- __init__ of the class at C stands in it; ds: the values of defaults that are left out -/
structure SrcI (K : PySem.W.Frag) (C : Addr) (qual : Str) (st : Stmt) (ps : List Str) : Prop where
  ex : ∃ f fd, Fun K "__init__" qual st f fd ∧ Mk K C f ∧ Binds K fd ps []
structure DefI (P : Program) (w : World) (K : PySem.W.Frag) (mg : Str → Option Value) (base : Heap) (CX : CXT) (k : Nat) (C : Addr) (ps : List Str) (sp : Sp) : Prop where
  ex : ∃ f fd, Mk K C f ∧ Binds K fd ps [] ∧ FnOk P w K mg base CX k f fd ps sp
section
variable {P : Program} {w : World} {K : PySem.W.Frag} {mg : Str → Option Value} {base : Heap} {CX : CXT} {m qual : Str} {C : Addr} {st : Stmt} {N ps : List Str} {k : Nat} {sp : Sp}
theorem DefM.mono {j : Nat} (D : DefM P w K mg base CX j C m ps sp) (h : j ≤ k) : DefM P w K mg base CX k C m ps sp := by
  obtain ⟨f, fd, h1, h2, h3⟩ := D.ex
  exact ⟨f, fd, h1, h2, h3.mono h⟩
theorem DefI.mono {j : Nat} (D : DefI P w K mg base CX j C ps sp) (h : j ≤ k) : DefI P w K mg base CX k C ps sp := by
  obtain ⟨f, fd, h1, h2, h3⟩ := D.ex
  exact ⟨f, fd, h1, h2, h3.mono h⟩
theorem SrcM.ok (F : SrcM K C m qual st ps) (S : FnScope N ps (defScope st)) (len : ∀ vs H Q E, sp vs H Q E → vs.length = ps.length)
    (hbody : ∀ (f : Addr) (cdv : Value) (A : Around) (outer : List Env) (s : Shared) (H : Hp) (vs : List V) (Q : VK) (E : XK), Room k (A.deeper (envOfC qual (defScope st) s.heap.objs.size f cdv)) → sp vs H Q E →
      ∃ t, PSs (cxOf CX0 P w K mg base N qual (defScope st) f cdv A outer s H E).nox (defBody st) t ∧ t { nx := fun _ H' => Q .non H', rt := Q } (start N vs) H) : DefM P w K mg base CX0 (k + 1) C m ps sp := by
  obtain ⟨f, fd, h1, h2, h3⟩ := F.ex
  exact ⟨f, fd, h2, h3, h1.ok S len (hbody f)⟩
theorem SrcM.okX (F : SrcM K C m qual st ps) (S : FnScope N ps (defScope st)) (len : ∀ vs H Q E, sp vs H Q E → vs.length = ps.length)
    (hbody : ∀ (f : Addr) (cdv : Value) (A : Around) (outer : List Env) (s : Shared) (H : Hp) (vs : List V) (Q : VK) (E : XK), Room k (A.deeper (envOfC qual (defScope st) s.heap.objs.size f cdv)) → sp vs H Q E →
      ∃ t, PSs (cxOf (L2.CX P w) P w K mg base N qual (defScope st) f cdv A outer s H E) (defBody st) t ∧ t { nx := fun _ H' => Q .non H', rt := Q } (start N vs) H) : DefM P w K mg base (L2.CX P w) (k + 1) C m ps sp := by
  obtain ⟨f, fd, h1, h2, h3⟩ := F.ex
  exact ⟨f, fd, h2, h3, h1.okX S len (hbody f)⟩
theorem SrcI.okX (F : SrcI K C qual st ps) (S : FnScope N ps (defScope st)) (len : ∀ vs H Q E, sp vs H Q E → vs.length = ps.length)
    (hbody : ∀ (f : Addr) (cdv : Value) (A : Around) (outer : List Env) (s : Shared) (H : Hp) (vs : List V) (Q : VK) (E : XK), Room k (A.deeper (envOfC qual (defScope st) s.heap.objs.size f cdv)) → sp vs H Q E →
      ∃ t, PSs (cxOf (L2.CX P w) P w K mg base N qual (defScope st) f cdv A outer s H E) (defBody st) t ∧ t { nx := fun _ H' => Q .non H', rt := Q } (start N vs) H) : DefI P w K mg base (L2.CX P w) (k + 1) C ps sp := by
  obtain ⟨f, fd, h1, h2, h3⟩ := F.ex
  exact ⟨f, fd, h2, h3, h1.okX S len (hbody f)⟩
theorem SrcI.ok (F : SrcI K C qual st ps) (S : FnScope N ps (defScope st)) (len : ∀ vs H Q E, sp vs H Q E → vs.length = ps.length)
    (hbody : ∀ (f : Addr) (cdv : Value) (A : Around) (outer : List Env) (s : Shared) (H : Hp) (vs : List V) (Q : VK) (E : XK), Room k (A.deeper (envOfC qual (defScope st) s.heap.objs.size f cdv)) → sp vs H Q E →
      ∃ t, PSs (cxOf CX0 P w K mg base N qual (defScope st) f cdv A outer s H E).nox (defBody st) t ∧ t { nx := fun _ H' => Q .non H', rt := Q } (start N vs) H) : DefI P w K mg base CX0 (k + 1) C ps sp := by
  obtain ⟨f, fd, h1, h2, h3⟩ := F.ex
  exact ⟨f, fd, h2, h3, h1.ok S len (hbody f)⟩
end
theorem passAt0 {X : Cx} (σ : St) : PassesAt CX0 X σ E0 := fun _ _ _ _ _ _ h => h.elim
theorem Passes.at {CX : CXT} {X : Cx} {E : XK} (h : Passes CX X E) (σ : St) : PassesAt CX X σ E := fun pins H s e s' I c => h pins σ H s e s' I c
/-- o.m(..) -/
def tMetD (C : Addr) (m : Str) (sp : Sp) (E : St → XK) (ta : TE) (t : TA) : TE := fun σ H Q => ta σ H fun x H1 => ∃ a dx fs, x = .ref a ∧ H1 a = some (.ins C dx fs) ∧ fs.lookup m = none ∧ t σ H1 fun vs H2 => sp (x :: vs) H2 Q (E σ)
/-- C(..) -/
def tMkD (C : Addr) (sp : Sp) (E : St → XK) (t : TA) : TE := fun σ H Q => t σ H fun vs H1 => ∀ x dx, H1 x = none → H1 dx = none → dx ≠ x →
  sp (.ref x :: vs) (upd (upd H1 dx (.own x)) x (.ins C dx [])) (fun v H2 => v = .non ∧ Q (.ref x) H2) (E σ)
section
variable {X : Cx} {CX : CXT} {k : Nat} {C : Addr} {ps : List Str} {sp : Sp} {E : St → XK} {x m : Str} {p pos apos : Pos} {e o : Expr} {es : List Expr} {ta : TE} {t : TA}
theorem pe_metD {pl : Sem Bool} (D : DefM X.prog X.w X.K X.mg X.base CX k C m ps sp) (c : Cls X.K C) (hr : Room k X.A) (hx : ∀ σ, PassesAt CX X σ (E σ)) (he : PE X o ta) (ha : PA X (e :: es) t)
    (hst : starEach (e :: es) X.env = (false, eval e X.env) :: starEach es X.env := by rfl) (hpl : (backTo pos (starEach es X.env)).any (·.1) = false := by rfl)
    (ht : eval (.Call (.Attribute o m apos) (e :: es) [] pos) X.env = (do
      let ov ← eval o X.env
      standAt apos.atName
      let (f, first) ← holding [ov] (getMethod ov m pl)
      callWith pos f first (backTo pos (starEach (e :: es) X.env)) (backToKw pos (keywordEach [] X.env))) := by rfl) :
    PE X (.Call (.Attribute o m apos) (e :: es) [] pos) (tMetD C m sp E ta t) := by
  obtain ⟨f, fd, hm, hb, F⟩ := D.ex
  refine ⟨fun pins s σ H Q I h => ?_⟩
  refine PySem.W.methodCall_KW (pl := pl) (thn (he.run pins s σ H _ I h) fun u s1 ⟨x, H1, I1, rx, a, dx, fs, ex, ea, l, q⟩ => ?_) ht
  subst ex
  obtain rfl : u = Value.ref a := rx
  refine getmeth_ok I1 ea c hm l ?_
  refine PySem.W.callWith_K (first := [.ref a]) (h₀ := X.base) I.ok.mod.kin hm.kp (thn (ha.run pos pins s1 σ H1 _ I1 q) fun us s2 ⟨vs, H2, I2, r, q2⟩ => ⟨I2.kIn, ?_⟩) hst hpl
  exact run_fnS (us := .ref a :: us) (vs := .ref a :: vs) F hr hb (hx σ) I2 (.cons rfl r) q2
theorem pe_metD0 {pl : Sem Bool} (D : DefM X.prog X.w X.K X.mg X.base CX k C m ps sp) (c : Cls X.K C) (hr : Room k X.A) (hx : ∀ σ, PassesAt CX X σ (E σ)) (he : PE X o ta)
    (ht : eval (.Call (.Attribute o m apos) [] [] pos) X.env = (do
      let ov ← eval o X.env
      standAt apos.atName
      let (f, first) ← holding [ov] (getMethod ov m pl)
      callWith pos f first (backTo pos (starEach [] X.env)) (backToKw pos (keywordEach [] X.env))) := by rfl) :
    PE X (.Call (.Attribute o m apos) [] [] pos) (tMetD C m sp E ta tNil) := by
  obtain ⟨f, fd, hm, hb, F⟩ := D.ex
  refine ⟨fun pins s σ H Q I h => ?_⟩
  refine PySem.W.methodCall_KW (pl := pl) (thn (he.run pins s σ H _ I h) fun u s1 ⟨x, H1, I1, rx, a, dx, fs, ex, ea, l, q⟩ => ?_) ht
  subst ex
  obtain rfl : u = Value.ref a := rx
  refine getmeth_ok I1 ea c hm l ?_
  exact PySem.W.callWith_K0 (first := [.ref a]) I1.kIn hm.kp (run_fnS (us := [.ref a]) (vs := [.ref a]) F hr hb (hx σ) I1 (.cons rfl .nil) q)
theorem pe_mkD (D : DefI X.prog X.w X.K X.mg X.base CX k C ps sp) (hm : X.mg x = some (.ref C)) (hr : Room (k + 1) X.A) (hx : ∀ σ, PassesAt CX X σ (E σ)) (ha : PA X (e :: es) t) (hg : Gl X x := by rfl)
    (hdb : (x == ("__debug__" : Str)) = false := by decide) (he : starEach (e :: es) X.env = (false, eval e X.env) :: starEach es X.env := by rfl) (hpl : (backTo pos (starEach es X.env)).any (·.1) = false := by rfl) :
    PE X (.Call (.Name x p) (e :: es) [] pos) (tMkD C sp E t) := by
  obtain ⟨f, fd, M, hb, F⟩ := D.ex
  refine ⟨fun pins s0 σ H0 Q I0 h0 => ?_⟩
  refine wpAny_Call_Name_kw (ld_glob I0 hg hm ?_ hdb)
  refine PySem.W.callWith_K (h₀ := X.base) I0.ok.mod.kin M.kp (thn (ha.run pos pins s0 σ H0 _ I0 h0) fun us s ⟨vs, H, I, r, h⟩ => ⟨I.kIn, ?_⟩) he hpl
  show wpAny _ _ (call (.ref C) us) _ _ _
  have hq := h (s.heap.objs.size + 1) s.heap.objs.size (I.hok.fresh (Nat.le_succ _)) (I.hok.fresh (Nat.le_refl _)) (Nat.ne_of_lt (Nat.lt_succ_self _))
  have I2 := Inv.made (C := C) I
  have r2 : Vals (V.ref (s.heap.objs.size + 1) :: vs) (Value.ref (s.heap.objs.size + 1) :: us) := .cons rfl r
  have hl : ((Value.ref (s.heap.objs.size + 1) :: us) ++ []).length = ps.length := by
    have e := r2.length
    rw [F.len _ _ _ _ hq] at e
    rw [List.append_nil]
    exact e.symm
  have hbb := hb _ (Value.ref (s.heap.objs.size + 1) :: us) I2.kIn hl
  rw [List.append_nil] at hbb
  refine wpAny_call (make_map (f := f) I.kIn M.makes M.init (beq_iff_eq.mp M.fn) (codeAny_mono (F.run _ X.stack _ _ ⟨Value.ref (s.heap.objs.size + 1) :: us, []⟩ (Value.ref (s.heap.objs.size + 1) :: us) _ _ (E σ) (hr.make C us [])
    (I2.env0.make C us []) hbb r2 hq) fun r s' hq' => ?_))
  cases r with
  | error e => exact hx σ pins _ _ e s' I2 hq'
  | ok fl =>
    cases fl with
    | ret u =>
      obtain ⟨v, H', I3, rv, ev, q3⟩ := I2.after hq'
      subst ev
      exact ⟨rv, ⟨V.ref (s.heap.objs.size + 1), H', I3, rfl, q3⟩⟩
    | next => exact False.elim hq'
    | brk => exact False.elim hq'
    | cont => exact False.elim hq'
theorem kps_fld {K : PySem.W.Frag} {f : Str} {value : Expr} {pos' : Pos} {tv : TE} (ha : PE X o ta) (hv : PE X value tv) (hs : swapsWith value (some (.Attribute o f pos')) pos.line X.env = pure false := by rfl) (hK : X.K = K := by rfl) :
    PS X (.Assign [.Attribute o f pos'] value pos) (sFld K ta tv f) := hK ▸ ps_fld ha hv hs
theorem srcM_mk {K : PySem.W.Frag} {qual : Str} {st : Stmt} {f : Addr} {oc : Value} {od an : Option Addr} {osl : Array (Option Value)} {kV doc pm cdv ct : Value}
    (a : PySem.W.findIn K (.ref C) m = some (some (.ref f))) (i : PySem.W.isFn K (.ref f) = true) (l : K.lookup f = some ⟨oc, od, .func (PySem.W.fnOf m qual (defArgs st) (defBody st) (defScope st) .none kV doc pm an cdv ct), osl⟩)
    (c : PySem.W.codeIn K cdv qual = true) (k : PySem.W.keepIn K (.ref f) = true)
    (hb : ∀ (kV doc pm : Value) (an : Option Addr) (cdv ct : Value) (us : List Value), us.length = ps.length → bindArgs (PySem.W.fnOf m qual (defArgs st) (defBody st) (defScope st) .none kV doc pm an cdv ct) ⟨us, []⟩ = pure (ps.zip us)) : SrcM K C m qual st ps :=
  ⟨f, _, fun_mk l c k, ⟨a, i, k⟩, (fun_mk (st := st) l c k).binds hb⟩
theorem srcI_mk {K : PySem.W.Frag} {qual : Str} {st : Stmt} {f : Addr} {oc : Value} {od an : Option Addr} {osl : Array (Option Value)} {kV doc pm cdv ct : Value}
    (mk : PySem.W.makesIn K C = true) (kc : PySem.W.keepIn K (.ref C) = true)
    (a : PySem.W.findIn K (.ref C) "__init__" = some (some (.ref f))) (i : PySem.W.isFn K (.ref f) = true) (l : K.lookup f = some ⟨oc, od, .func (PySem.W.fnOf "__init__" qual (defArgs st) (defBody st) (defScope st) .none kV doc pm an cdv ct), osl⟩)
    (c : PySem.W.codeIn K cdv qual = true) (k : PySem.W.keepIn K (.ref f) = true)
    (hb : ∀ (kV doc pm : Value) (an : Option Addr) (cdv ct : Value) (us : List Value), us.length = ps.length → bindArgs (PySem.W.fnOf "__init__" qual (defArgs st) (defBody st) (defScope st) .none kV doc pm an cdv ct) ⟨us, []⟩ = pure (ps.zip us)) : SrcI K C qual st ps :=
  ⟨f, _, fun_mk l c k, ⟨mk, a, i, kc⟩, (fun_mk (st := st) l c k).binds hb⟩
end
end L2

set_option Elab.async false
set_option linter.all false
set_option maxRecDepth 100000
set_option maxHeartbeats 4000000
/-! Plans as plain data, how one stands in the heap, and which error is due. -/
namespace L2
open PySem PySem.Spec PyProof.Rows PySem.HErr
/-- an error of a plan -/
inductive PErr where
  | tooMany (kind : Str) (limit : Int)
  | badWord (w : Str)
  | double (n : Str)
  | badNumber (n : Int)
  | empty (n : Str)
  | unknown (n : Str)
def nameErr : Bool × Str → PErr
  | (true, n) => .unknown n
  | (false, n) => .double n
def placesDue : List Str → List (Str × Int) → Option PErr
  | _, [] => none
  | seen, (w, n) :: r => if wd w.cps.toList = true then (if w ∈ seen then some (.double w) else if 0 ≤ n ∧ n ≤ 99 then placesDue (seen ++ [w]) r else some (.badNumber n)) else some (.badWord w)
abbrev SRow := Str × List Str × List Str
def stepDue (places seen : List Str) (s : SRow) : Option PErr :=
  if wd s.1.cps.toList = true then (if s.1 ∈ seen then some (.double s.1) else if s.2.1 = [] then some (.empty s.1) else
    match chk places [] s.2.1 with
    | some x => some (nameErr x)
    | none => (chk places [] s.2.2).map nameErr) else some (.badWord s.1)
def stepsDue (places : List Str) : List Str → List SRow → Option PErr
  | _, [] => none
  | seen, s :: r => match stepDue places seen s with
    | some e => some e
    | none => stepsDue places (seen ++ [s.1]) r
def planDue (prs : List (Str × Int)) (srs : List SRow) : Option PErr :=
  if 12 < prs.length then some (.tooMany "places" 12) else if 16 < srs.length then some (.tooMany "steps" 16) else
    match placesDue [] prs with
    | some e => some e
    | none => stepsDue (prs.map (·.1)) [] srs
theorem placesDue_cons (seen : List Str) (w : Str) (n : Int) (r : List (Str × Int)) : placesDue seen ((w, n) :: r) = if wd w.cps.toList = true then (if w ∈ seen then some (.double w) else if 0 ≤ n ∧ n ≤ 99 then placesDue (seen ++ [w]) r else some (.badNumber n)) else some (.badWord w) := rfl
theorem stepsDue_cons (places seen : List Str) (s : SRow) (r : List SRow) : stepsDue places seen (s :: r) = match stepDue places seen s with
    | some e => some e
    | none => stepsDue places (seen ++ [s.1]) r := rfl
/-- names in the order of the places -/
def inOrd (places ns : List Str) : List Str := places.filter fun p => decide (p ∈ ns)
/-- a plan -/
structure PlanD where
  places : List Str
  begin : List Int
  steps : List SRow
def planOf (prs : List (Str × Int)) (srs : List SRow) : PlanD := ⟨prs.map (·.1), prs.map (·.2), srs.map fun s => (s.1, inOrd (prs.map (·.1)) s.2.1, inOrd (prs.map (·.1)) s.2.2)⟩
def PlanD.names (d : PlanD) : List Str := d.steps.map (·.1)
/-- a dict from words to tuples of words -/
def TabAt (H : Hp) (kvs : List (Key × V)) (rows : List (Str × List Str)) : Prop := Paired (fun (kv : Key × V) r => kv.1 = Sum.inr r.1 ∧ ∃ t, kv.2 = .ref t ∧ H t = some (.tup (r.2.map V.str))) kvs rows
/-- the plan d stands at x -/
structure PlanAt (H : Hp) (C x : Addr) (d : PlanD) : Prop where
  ex : ∃ (dx tp tb td tg ts : Addr) (kt kg : List (Key × V)), H x = some (.ins C dx [("places", .ref tp), ("begin", .ref tb), ("taken", .ref td), ("given", .ref tg), ("steps", .ref ts)]) ∧
    H tp = some (.tup (d.places.map V.str)) ∧ H tb = some (.tup (d.begin.map V.int)) ∧ H td = some (.dK kt) ∧ H tg = some (.dK kg) ∧ H ts = some (.tup (d.names.map V.str)) ∧
    TabAt H kt (d.steps.map fun s => (s.1, s.2.1)) ∧ TabAt H kg (d.steps.map fun s => (s.1, s.2.2))
theorem Paired.imp2 {α β : Type} {R S : α → β → Prop} (h : ∀ a b, R a b → S a b) : ∀ {l : List α} {m : List β}, Paired R l m → Paired S l m
  | _, _, .nil => .nil
  | _, _, .cons x y => .cons (h _ _ x) (Paired.imp2 h y)
theorem TabAt.keep {H H' : Hp} {kvs : List (Key × V)} {rows : List (Str × List Str)} (h : TabAt H kvs rows) (e : ∀ t l, H t = some (.tup l) → H' t = some (.tup l)) : TabAt H' kvs rows :=
  Paired.imp2 (fun _ _ ⟨h1, t, h2, h3⟩ => ⟨h1, t, h2, e t _ h3⟩) h
theorem PlanAt.keep {H H' : Hp} {C x : Addr} {d : PlanD} (h : PlanAt H C x d) (e : Same H H') : PlanAt H' C x d := by
  obtain ⟨dx, tp, tb, td, tg, ts, kt, kg, h1, h2, h3, h4, h5, h6, h7, h8⟩ := h.ex
  exact ⟨dx, tp, tb, td, tg, ts, kt, kg, e _ _ h1, e _ _ h2, e _ _ h3, e _ _ h4, e _ _ h5, e _ _ h6, h7.keep fun _ _ => e _ _, h8.keep fun _ _ => e _ _⟩
/-- rows of places, rows of steps, in the heap -/
def PRows (H : Hp) (a : Addr) (prs : List (Str × Int)) : Prop := ∃ ts : List Addr, H a = some (.lst (ts.map V.ref)) ∧ Paired (fun t (r : Str × Int) => H t = some (.tup [.str r.1, .int r.2])) ts prs
/-- a row of a step at t, its lists other than the one at a -/
def SRowIn (H : Hp) (a t : Addr) (r : SRow) : Prop := ∃ b c, H t = some (.tup [.str r.1, .ref b, .ref c]) ∧ H b = some (.lst (r.2.1.map V.str)) ∧ H c = some (.lst (r.2.2.map V.str)) ∧ b ≠ a ∧ c ≠ a
def SRows (H : Hp) (a : Addr) (srs : List SRow) : Prop := ∃ ts : List Addr, H a = some (.lst (ts.map V.ref)) ∧ Paired (SRowIn H a) ts srs
theorem PRows.keep {H H' : Hp} {a : Addr} {prs : List (Str × Int)} (h : PRows H a prs) (e : Same H H') : PRows H' a prs := by
  obtain ⟨ts, h1, h2⟩ := h
  exact ⟨ts, e _ _ h1, Paired.imp2 (fun _ _ h => e _ _ h) h2⟩
theorem SRows.keep {H H' : Hp} {a : Addr} {srs : List SRow} (h : SRows H a srs) (e : Same H H') : SRows H' a srs := by
  obtain ⟨ts, h1, h2⟩ := h
  exact ⟨ts, e _ _ h1, Paired.imp2 (fun _ _ ⟨b, c, x, y, z, u⟩ => ⟨b, c, e _ _ x, e _ _ y, e _ _ z, u⟩) h2⟩
theorem Paired.get {α β : Type} {R : α → β → Prop} : ∀ {l : List α} {m : List β} {i : Nat} {a : α}, Paired R l m → l[i]? = some a → ∃ b, m[i]? = some b ∧ R a b
  | _, _, _, _, .nil, h => by simp at h
  | _, _, 0, _, .cons x _, h => by cases h; exact ⟨_, rfl, x⟩
  | _, _, i + 1, _, .cons _ y, h => Paired.get (i := i) y h
theorem Paired.len {α β : Type} {R : α → β → Prop} : ∀ {l : List α} {m : List β}, Paired R l m → l.length = m.length
  | _, _, .nil => rfl
  | _, _, .cons _ y => by rw [List.length_cons, List.length_cons, Paired.len y]
theorem Paired.snoc {α β : Type} {R : α → β → Prop} {a : α} {b : β} (h : R a b) : ∀ {l : List α} {m : List β}, Paired R l m → Paired R (l ++ [a]) (m ++ [b])
  | _, _, .nil => .cons h .nil
  | _, _, .cons x y => .cons x (Paired.snoc h y)
/-- the classes of the errors of a plan -/
structure ECs where
  tooMany : Addr
  badWord : Addr
  double : Addr
  badNumber : Addr
  empty : Addr
  unknown : Addr
def PErr.cls (cs : ECs) : PErr → Addr
  | .tooMany _ _ => cs.tooMany
  | .badWord _ => cs.badWord
  | .double _ => cs.double
  | .badNumber _ => cs.badNumber
  | .empty _ => cs.empty
  | .unknown _ => cs.unknown
def PErr.fields : PErr → List (Str × V)
  | .tooMany k l => [("limit", .int l), ("kind", .str k)]
  | .badWord w => [("word", .str w)]
  | .double n => [("name", .str n)]
  | .badNumber n => [("number", .int n)]
  | .empty n => [("name", .str n)]
  | .unknown n => [("name", .str n)]
/-- an error e is what E wants -/
def RaisP (cs : ECs) (E : XK) (H : Hp) (e : PErr) : Prop := Rais E H (e.cls cs) e.fields
/-- the same, but the object at x may have changed -/
def RaisX (cs : ECs) (E : XK) (x : Addr) (H : Hp) (e : PErr) : Prop := ∀ H' d, SameB x H H' → H d = none → H' d = some (.xd e.fields) → E (.ref (e.cls cs)) (some d) H'
theorem RaisX.go {cs : ECs} {E : XK} {x d : Addr} {H H' : Hp} {e : PErr} (h : RaisX cs E x H e) (sm : SameB x H H') (n : H' d = none) (hx : ∃ o, H' x = some o) : E (.ref (e.cls cs)) (some d) (upd H' d (.xd e.fields)) := by
  have hd : d ≠ x := fun q => by
    obtain ⟨o, ho⟩ := hx
    rw [q, ho] at n
    cases n
  exact h _ d (fun a o ha e => by rw [upd_ne (ne_of_none (sm a o ha e) n)]; exact sm a o ha e) (sm.free hd n) upd_same
theorem valV_tab {H : Hp} : ∀ {kvs : List (Key × V)} {rows : List (Str × List Str)}, TabAt H kvs rows → ∀ n : Str,
    (n ∈ rows.map (·.1) → ∃ t l, valV kvs (Sum.inr n) = some (.ref t) ∧ H t = some (.tup (l.map V.str)) ∧ rows.lookup n = some l) ∧ (n ∉ rows.map (·.1) → valV kvs (Sum.inr n) = none)
  | _, _, .nil, n => ⟨(fun h => by cases h), fun _ => rfl⟩
  | kv :: kvs, r :: rows, .cons ⟨h1, t, h2, h3⟩ hr, n => by
    obtain ⟨ih1, ih2⟩ := valV_tab hr n
    by_cases e : r.1 = n
    · refine ⟨fun _ => ⟨t, r.2, ?_, h3, ?_⟩, fun h => absurd (List.mem_cons_self ..) (by rw [← e] at h; exact h)⟩
      · rw [valV_pos (by rw [h1, e]), h2]
      · obtain ⟨r1, r2⟩ := r
        have e : r1 = n := e
        rw [List.lookup_cons, e]
        simp
    · have hk : ¬ kv.1 = Sum.inr n := fun q => by rw [h1] at q; exact e (Sum.inr.inj q)
      refine ⟨fun h => ?_, fun h => ?_⟩
      · rcases List.mem_cons.mp h with h | h
        · exact absurd h.symm e
        · obtain ⟨t', l, a, b, c⟩ := ih1 h
          refine ⟨t', l, by rw [valV_neg hk]; exact a, b, ?_⟩
          obtain ⟨r1, r2⟩ := r
          have hne : (n == r1) = false := by simpa using fun q : n = r1 => e q.symm
          rw [List.lookup_cons, hne]
          exact c
      · rw [valV_neg hk]
        exact ih2 fun q => h (List.mem_cons_of_mem _ q)
/-- [row[0] for row in rows], the heads texts -/
theorem lc_heads {K : PySem.W.Frag} {σ : St} {H : Hp} {j r : Nat} {a : Addr} {ts : List Addr} {ws : List Str} {Q : VK} (ha : H a = some (.lst (ts.map V.ref))) (hp : Paired (fun t z => ∃ rest, H t = some (.tup (.str z :: rest))) ts ws) (hl : ws.length ≤ 1000)
    (hσ : σ[j]? = some (some (.ref a))) (hr : r < σ.length) (q : ∀ (D : Addr) (H' : Hp), H D = none → Same H H' → H' D = some (.lst (ws.map V.str)) → Q (.ref D) H') :
    tLc (iList K (tVar j)) (gName r) tYes (tOp (rIxT K) (tVar r) (tC (.int 0))) [r] σ H Q := by
  refine ⟨_, hσ, a, rfl, ⟨_, SqL.of ha⟩, fun D nD => lc_list (K := K) (a := a) (xs := ts.map V.ref) (fun i H' => Same H H' ∧ H' D = some (.lst ((ws.take i).map V.str))) ⟨same_upd nD, upd_same⟩ (fun i H' _ h' => SqL.of (h'.1 _ _ ha)) ?_ ?_⟩
  · rintro i x H' hi ⟨sm, hD⟩
    obtain ⟨t, ht, rfl⟩ := map_get hi
    obtain ⟨z, hz, rest, hrow⟩ := Paired.get hp ht
    refine ⟨?_, yes_if ?_⟩
    · show ((σ.set r none).set r (some (V.ref t))).set r none = σ.set r none
      rw [List.set_set, List.set_set]
    · have hv : ((σ.set r none).set r (some (V.ref t)))[r]? = some (some (V.ref t)) := by
        rw [List.getElem?_set_self (by rw [List.length_set]; exact hr)]
      refine ⟨_, hv, t, _, _, _, rfl, rfl, SqT.of (sm _ _ hrow), atI_nat (j := 0) rfl, _, hD, ?_, fun b o e => ?_, ?_⟩
      · rw [List.length_map, List.length_take]
        exact small1000 (by omega)
      · rw [upd_ne (ne_of_none e nD)]
        exact sm b o e
      · rw [upd_same, take_more hz, List.map_append]
        rfl
  · rintro H' ⟨sm, hD⟩
    rw [List.length_map, Paired.len hp, List.take_length] at hD
    exact q D H' nD sm hD
theorem PRows.heads {H : Hp} {ts : List Addr} {prs : List (Str × Int)} (h : Paired (fun t (r : Str × Int) => H t = some (.tup [.str r.1, .int r.2])) ts prs) : Paired (fun t z => ∃ rest, H t = some (.tup (.str z :: rest))) ts (prs.map (·.1)) := by
  induction h with
  | nil => exact .nil
  | cons a _ ih => exact .cons ⟨_, a⟩ ih
theorem SRows.heads {H : Hp} {a : Addr} {ts : List Addr} {srs : List SRow} (h : Paired (SRowIn H a) ts srs) : Paired (fun t z => ∃ rest, H t = some (.tup (.str z :: rest))) ts (srs.map (·.1)) := by
  induction h with
  | nil => exact .nil
  | cons a _ ih =>
    obtain ⟨b, c, h1, _⟩ := a
    exact .cons ⟨_, h1⟩ ih
/-- rows without what stands at b -/
theorem PRows.bx {b l : Addr} {H H' : Hp} {a : Addr} {prs : List (Str × Int)} (h : PRows H a prs) (e : Bx b l H H') : PRows H' a prs := by
  obtain ⟨ts, h1, h2⟩ := h
  obtain ⟨ns, i, c, r, hb, _⟩ := e.b0.ex
  have nt : ∀ {t : Addr} {xs : List V}, H t = some (.tup xs) → t ≠ b := fun {t xs} h q => by rw [q, hb] at h; cases h
  have nl : a ≠ b := fun q => by
    rw [q, hb] at h1
    have h1 : [V.int i, V.int c, V.int r, V.ref l] = ts.map V.ref := HO.lst.inj (Option.some.inj h1)
    cases ts with
    | nil => cases h1
    | cons t ts => cases h1
  exact ⟨ts, e.at h1 nl, Paired.imp2 (fun _ _ h => e.at h (nt h)) h2⟩
theorem lst_strs_ne {b l : Addr} {H : Hp} {a : Addr} {ws : List Str} (hb : Box H b l) (h : H a = some (.lst (ws.map V.str))) : a ≠ b := fun q => by
  obtain ⟨ns, i, c, r, hb, _⟩ := hb.ex
  rw [q, hb] at h
  have h1 : [V.int i, V.int c, V.int r, V.ref l] = ws.map V.str := HO.lst.inj (Option.some.inj h)
  cases ws with
  | nil => cases h1
  | cons t ts => cases h1
theorem lst_refs_ne {b l : Addr} {H : Hp} {a : Addr} {ts : List Addr} (hb : Box H b l) (h : H a = some (.lst (ts.map V.ref))) : a ≠ b := fun q => by
  obtain ⟨ns, i, c, r, hb, _⟩ := hb.ex
  rw [q, hb] at h
  have h1 : [V.int i, V.int c, V.int r, V.ref l] = ts.map V.ref := HO.lst.inj (Option.some.inj h)
  cases ts with
  | nil => cases h1
  | cons t ts => cases h1
theorem tup_ne {b l : Addr} {H : Hp} {a : Addr} {xs : List V} (hb : Box H b l) (h : H a = some (.tup xs)) : a ≠ b := fun q => by
  obtain ⟨ns, i, c, r, hb, _⟩ := hb.ex
  rw [q, hb] at h
  cases h
theorem SRows.bx {b l : Addr} {H H' : Hp} {a : Addr} {srs : List SRow} (h : SRows H a srs) (e : Bx b l H H') : SRows H' a srs := by
  obtain ⟨ts, h1, h2⟩ := h
  exact ⟨ts, e.at h1 (lst_refs_ne e.b0 h1), Paired.imp2 (fun _ _ ⟨x, y, h3, h4, h5, u⟩ => ⟨x, y, e.at h3 (tup_ne e.b0 h3), e.at h4 (lst_strs_ne e.b0 h4), e.at h5 (lst_strs_ne e.b0 h5), u⟩) h2⟩
theorem PRows.snoc {H : Hp} {a t : Addr} {ts : List Addr} {prs : List (Str × Int)} {r : Str × Int} (h1 : H a = some (.lst (ts.map V.ref))) (h2 : Paired (fun t (r : Str × Int) => H t = some (.tup [.str r.1, .int r.2])) ts prs) (ht : H t = some (.tup [.str r.1, .int r.2])) :
    PRows (upd H a (.lst (ts.map V.ref ++ [V.ref t]))) a (prs ++ [r]) := by
  have ne : ∀ {c : Addr} {xs : List V}, H c = some (.tup xs) → c ≠ a := fun {c xs} e q => by rw [q, h1] at e; cases e
  refine ⟨ts ++ [t], ?_, Paired.snoc ?_ (Paired.imp2 (fun c r e => ?_) h2)⟩
  · rw [upd_same, List.map_append]
    rfl
  · rw [upd_ne (ne ht)]
    exact ht
  · rw [upd_ne (ne e)]
    exact e
theorem SRows.snoc {H : Hp} {a t : Addr} {ts : List Addr} {srs : List SRow} {r : SRow} (h1 : H a = some (.lst (ts.map V.ref))) (h2 : Paired (SRowIn H a) ts srs) (ht : SRowIn H a t r) : SRows (upd H a (.lst (ts.map V.ref ++ [V.ref t]))) a (srs ++ [r]) := by
  have key : ∀ {t : Addr} {r : SRow} {o : HO}, SRowIn H a t r → SRowIn (upd H a o) a t r := fun {t r o} ⟨b, c, x, y, z, u1, u2⟩ =>
    ⟨b, c, by rw [upd_ne (fun q => by rw [q, h1] at x; cases x)]; exact x, by rw [upd_ne u1]; exact y, by rw [upd_ne u2]; exact z, u1, u2⟩
  refine ⟨ts ++ [t], ?_, Paired.snoc (key ht) (Paired.imp2 (fun _ _ e => key e) h2)⟩
  rw [upd_same, List.map_append]
  rfl
end L2

set_option Elab.async false
set_option linter.all false
set_option maxRecDepth 100000
set_option maxHeartbeats 4000000
/-! Rows of plans as the laws draw them: what is kept, and that no error is due. -/
namespace L2
open PySem PySem.Spec PyProof.Rows PySem.HErr
theorem Same.mut {p : Addr} {H H' : Hp} {o : HO} (h : Same H H') (n : H p = none) : Same H (upd H' p o) := fun a u e => by
  rw [upd_ne (ne_of_none e n)]
  exact h a u e
theorem Bx.strs {b l : Addr} {H H' : Hp} {a : Addr} {ws : List Str} (x : Bx b l H H') (h : H a = some (.lst (ws.map V.str))) : H' a = some (.lst (ws.map V.str)) := x.at h (lst_strs_ne x.b0 h)
theorem Bx.refs {b l : Addr} {H H' : Hp} {a : Addr} {ts : List Addr} (x : Bx b l H H') (h : H a = some (.lst (ts.map V.ref))) : H' a = some (.lst (ts.map V.ref)) := x.at h (lst_refs_ne x.b0 h)
theorem Bx.tup {b l : Addr} {H H' : Hp} {a : Addr} {xs : List V} (x : Bx b l H H') (h : H a = some (.tup xs)) : H' a = some (.tup xs) := x.at h (tup_ne x.b0 h)
/-! steps at the level of statements -/
theorem go_name {i : Nat} {v : V} {σ : L2.St} {H : Hp} {Q : L2.St → Hp → Prop} (h : Q (σ.set i (some v)) H) : gName i v σ H Q := h
theorem go_asg {te : TE} {g : TG} {u : TS} {D : Ends} {σ : L2.St} {H : Hp} (h : te σ H fun x H1 => g x σ H1 (u D)) : tSeq (tAsg te g) u D σ H := h
theorem go_op {R : R2} {ta tb : TE} {σ : L2.St} {H : Hp} {Q : VK} (h : ta σ H fun x H1 => tb σ H1 fun y H2 => R x y H2 Q) : tOp R ta tb σ H Q := h
theorem go_seq {t u : TS} {D : Ends} {σ : L2.St} {H : Hp} (h : t { D with nx := u D } σ H) : tSeq t u D σ H := h
theorem go_if {c : TT} {t u : TS} {D : Ends} {σ : L2.St} {H : Hp} (h : c σ H fun b H1 => if b = true then t D σ H1 else u D σ H1) : tIfS c t u D σ H := h
theorem go_test {t : TE} {σ : L2.St} {H : Hp} {Q : Bool → Hp → Prop} (h : t σ H fun x H' => ∃ k, x = .bl k ∧ Q k H') : tTest t σ H Q := h
theorem go_ret {te : TE} {D : Ends} {σ : L2.St} {H : Hp} (h : te σ H D.rt) : tRet te D σ H := h
theorem go_cons {ta : TE} {tr : TA} {σ : L2.St} {H : Hp} {Q : List V → Hp → Prop} (h : ta σ H fun x H1 => tr σ H1 fun xs H2 => Q (x :: xs) H2) : tCons ta tr σ H Q := h
theorem go_lst {t : TA} {σ : L2.St} {H : Hp} {Q : VK} (h : t σ H fun xs H1 => xs.length ≤ sizeLine ∧ ∀ p, H1 p = none → Q (.ref p) (upd H1 p (.lst xs))) : tLst t σ H Q := h
theorem go_tup {t : TA} {σ : L2.St} {H : Hp} {Q : VK} (h : t σ H fun xs H1 => xs.length ≤ sizeLine ∧ ∀ p, H1 p = none → Q (.ref p) (upd H1 p (.tup xs))) : tTup t σ H Q := h
theorem go_asg1 {te : TE} {g : TG} {D : Ends} {σ : L2.St} {H : Hp} (h : te σ H fun x H1 => g x σ H1 D.nx) : tAsg te g D σ H := h
theorem go_next {D : Ends} {σ : L2.St} {H : Hp} (h : D.nx σ H) : tNext D σ H := h
theorem Paired.take {α β : Type} {R : α → β → Prop} : ∀ {l : List α} {m : List β} (i : Nat), Paired R l m → Paired R (l.take i) (m.take i)
  | _, _, 0, _ => .nil
  | _, _, _ + 1, .nil => .nil
  | _, _, i + 1, .cons x y => .cons x (Paired.take i y)
theorem Paired.drop {α β : Type} {R : α → β → Prop} : ∀ {l : List α} {m : List β} (i : Nat), Paired R l m → Paired R (l.drop i) (m.drop i)
  | _, _, 0, h => h
  | _, _, _ + 1, .nil => .nil
  | _, _, i + 1, .cons _ y => Paired.drop i y
theorem Paired.app {α β : Type} {R : α → β → Prop} : ∀ {l : List α} {m : List β} {l' : List α} {m' : List β}, Paired R l m → Paired R l' m' → Paired R (l ++ l') (m ++ m')
  | _, _, _, _, .nil, h => h
  | _, _, _, _, .cons x y, h => .cons x (Paired.app y h)
theorem Paired.get' {α β : Type} {R : α → β → Prop} : ∀ {l : List α} {m : List β} {i : Nat} {b : β}, Paired R l m → m[i]? = some b → ∃ a, l[i]? = some a ∧ R a b
  | _, _, _, _, .nil, h => by simp at h
  | _, _, 0, _, .cons x _, h => by cases h; exact ⟨_, rfl, x⟩
  | _, _, i + 1, _, .cons _ y, h => Paired.get' (i := i) y h
theorem drop_at {α : Type} {l : List α} {i : Nat} {n : α} (h : l[i]? = some n) : l.drop i = n :: l.drop (i + 1) := List.drop_eq_getElem?_toList_append.trans (by rw [h]; rfl)
/-- [row[0] for row in e], the heads texts -/
theorem lc_headsE {K : PySem.W.Frag} {te : TE} {σ : L2.St} {H : Hp} {r : Nat} {ts : List Addr} {ws : List Str} {Q : VK} (hp : Paired (fun t z => ∃ rest, H t = some (.tup (.str z :: rest))) ts ws) (hl : ws.length ≤ 1000) (hr : r < σ.length)
    (hte : ∀ F : VK, (∀ a H1, Same H H1 → H1 a = some (.lst (ts.map V.ref)) → F (.ref a) H1) → te σ H F) (q : ∀ (D : Addr) (H' : Hp), Same H H' → H' D = some (.lst (ws.map V.str)) → Q (.ref D) H') :
    tLc (iList K te) (gName r) tYes (tOp (rIxT K) (tVar r) (tC (.int 0))) [r] σ H Q := by
  refine hte _ fun a H1 s1 ha => ?_
  refine ⟨a, rfl, ⟨_, SqL.of ha⟩, fun D nD => lc_list (K := K) (a := a) (xs := ts.map V.ref) (fun i H' => Same H1 H' ∧ H' D = some (.lst ((ws.take i).map V.str))) ⟨same_upd nD, upd_same⟩ (fun i H' _ h' => SqL.of (h'.1 _ _ ha)) ?_ ?_⟩
  · rintro i x H' hi ⟨sm, hD⟩
    obtain ⟨t, ht, rfl⟩ := map_get hi
    obtain ⟨z, hz, rest, hrow⟩ := Paired.get hp ht
    refine ⟨?_, yes_if ?_⟩
    · show ((σ.set r none).set r (some (V.ref t))).set r none = σ.set r none
      rw [List.set_set, List.set_set]
    · have hv : ((σ.set r none).set r (some (V.ref t)))[r]? = some (some (V.ref t)) := by
        rw [List.getElem?_set_self (by rw [List.length_set]; exact hr)]
      refine ⟨_, hv, t, _, _, _, rfl, rfl, SqT.of (sm _ _ (s1 _ _ hrow)), atI_nat (j := 0) rfl, _, hD, ?_, fun b o e => ?_, ?_⟩
      · rw [List.length_map, List.length_take]
        exact small1000 (by omega)
      · rw [upd_ne (ne_of_none e nD)]
        exact sm b o e
      · rw [upd_same, take_more hz, List.map_append]
        rfl
  · rintro H' ⟨sm, hD⟩
    rw [List.length_map, Paired.len hp, List.take_length] at hD
    exact q D H' (s1.trans sm) hD
/-- [f(x) for x in e if p(x)] over a list whose entries are known -/
theorem lc_gen {K : PySem.W.Frag} {te0 te : TE} {tt : TT} {σ : L2.St} {H : Hp} {r : Nat} {α : Type} {enc out : α → V} {ws : List α} {p : α → Bool} {Q : VK} (hl : ws.length ≤ 1000)
    (hit : ∀ F : VK, (∀ a H1, Same H H1 → H1 a = some (.lst (ws.map enc)) → F (.ref a) H1) → te0 σ H F)
    (htt : ∀ z ∈ ws, ∀ (H' : Hp) (Qb : Bool → Hp → Prop), Same H H' → (∀ H'', Same H' H'' → Qb (p z) H'') → tt ((σ.set r none).set r (some (enc z))) H' Qb)
    (hte : ∀ z ∈ ws, p z = true → ∀ (H' : Hp) (Q' : VK), Same H H' → (∀ H'', Same H' H'' → Q' (out z) H'') → te ((σ.set r none).set r (some (enc z))) H' Q')
    (q : ∀ (D : Addr) (H' : Hp), H D = none → Same H H' → H' D = some (.lst ((ws.filter p).map out)) → Q (.ref D) H') :
    tLc (iList K te0) (gName r) tt te [r] σ H Q := by
  refine hit _ fun a H1 s1 ha => ?_
  refine ⟨a, rfl, ⟨_, SqL.of ha⟩, fun D nD => lc_list (K := K) (a := a) (xs := ws.map enc) (fun i H' => Same H1 H' ∧ H' D = some (.lst (((ws.take i).filter p).map out))) ⟨same_upd nD, upd_same⟩ (fun i H' _ h' => SqL.of (h'.1 _ _ ha)) ?_ ?_⟩
  · rintro i x H' hi ⟨sm, hD⟩
    rw [List.getElem?_map] at hi
    obtain ⟨z, hz, rfl⟩ := Option.map_eq_some_iff.mp hi
    have hm := List.mem_of_getElem? hz
    refine ⟨?_, htt z hm H' _ (s1.trans sm) fun H2 s2 => ?_⟩
    · show ((σ.set r none).set r (some (enc z))).set r none = σ.set r none
      rw [List.set_set, List.set_set]
    · have et : (ws.take (i + 1)).filter p = (ws.take i).filter p ++ if p z = true then [z] else [] := by
        rw [take_more hz, List.filter_append, List.filter_cons]
        rfl
      split
      · rename_i h1
        rw [if_pos h1] at et
        refine hte z hm h1 H2 _ ((s1.trans sm).trans s2) fun H3 s3 => ?_
        refine ⟨_, s3 _ _ (s2 _ _ hD), ?_, fun b o e => ?_, ?_⟩
        · rw [List.length_map]
          have := List.length_filter_le p (ws.take i)
          rw [List.length_take] at this
          exact small1000 (by omega)
        · rw [upd_ne (ne_of_none e nD)]
          exact s3 _ _ (s2 _ _ (sm b o e))
        · rw [upd_same, et, List.map_append]
          rfl
      · rename_i h1
        rw [if_neg h1, List.append_nil] at et
        exact ⟨sm.trans s2, by rw [et]; exact s2 _ _ hD⟩
  · rintro H' ⟨sm, hD⟩
    rw [List.length_map, List.take_length] at hD
    exact q D H' (s1.free nD) (s1.trans sm) hD
/-- [f(x) for x in e if p(x)] over a tuple whose entries are known -/
theorem lc_genT {K : PySem.W.Frag} {te0 te : TE} {tt : TT} {σ : L2.St} {H : Hp} {r : Nat} {α : Type} {enc out : α → V} {ws : List α} {p : α → Bool} {Q : VK} (hl : ws.length ≤ 1000)
    (hit : ∀ F : VK, (∀ a H1, Same H H1 → H1 a = some (.tup (ws.map enc)) → F (.ref a) H1) → te0 σ H F)
    (htt : ∀ z ∈ ws, ∀ (H' : Hp) (Qb : Bool → Hp → Prop), Same H H' → (∀ H'', Same H' H'' → Qb (p z) H'') → tt ((σ.set r none).set r (some (enc z))) H' Qb)
    (hte : ∀ z ∈ ws, p z = true → ∀ (H' : Hp) (Q' : VK), Same H H' → (∀ H'', Same H' H'' → Q' (out z) H'') → te ((σ.set r none).set r (some (enc z))) H' Q')
    (q : ∀ (D : Addr) (H' : Hp), H D = none → Same H H' → H' D = some (.lst ((ws.filter p).map out)) → Q (.ref D) H') :
    tLc (iTup K te0) (gName r) tt te [r] σ H Q := by
  refine hit _ fun a H1 s1 ha => ?_
  refine ⟨a, rfl, ⟨_, SqT.of ha⟩, fun D nD => lc_tup (K := K) (a := a) (xs := ws.map enc) (fun i H' => Same H1 H' ∧ H' D = some (.lst (((ws.take i).filter p).map out))) ⟨same_upd nD, upd_same⟩ (fun i H' _ h' => SqT.of (h'.1 _ _ ha)) ?_ ?_⟩
  · rintro i x H' hi ⟨sm, hD⟩
    rw [List.getElem?_map] at hi
    obtain ⟨z, hz, rfl⟩ := Option.map_eq_some_iff.mp hi
    have hm := List.mem_of_getElem? hz
    refine ⟨?_, htt z hm H' _ (s1.trans sm) fun H2 s2 => ?_⟩
    · show ((σ.set r none).set r (some (enc z))).set r none = σ.set r none
      rw [List.set_set, List.set_set]
    · have et : (ws.take (i + 1)).filter p = (ws.take i).filter p ++ if p z = true then [z] else [] := by
        rw [take_more hz, List.filter_append, List.filter_cons]
        rfl
      split
      · rename_i h1
        rw [if_pos h1] at et
        refine hte z hm h1 H2 _ ((s1.trans sm).trans s2) fun H3 s3 => ?_
        refine ⟨_, s3 _ _ (s2 _ _ hD), ?_, fun b o e => ?_, ?_⟩
        · rw [List.length_map]
          have := List.length_filter_le p (ws.take i)
          rw [List.length_take] at this
          exact small1000 (by omega)
        · rw [upd_ne (ne_of_none e nD)]
          exact s3 _ _ (s2 _ _ (sm b o e))
        · rw [upd_same, et, List.map_append]
          rfl
      · rename_i h1
        rw [if_neg h1, List.append_nil] at et
        exact ⟨sm.trans s2, by rw [et]; exact s2 _ _ hD⟩
  · rintro H' ⟨sm, hD⟩
    rw [List.length_map, List.take_length] at hD
    exact q D H' (s1.free nD) (s1.trans sm) hD
/-- [f(k) for k in range(n) if p(k)] -/
theorem lc_genR {ta : TA} {te : TE} {tt : TT} {σ : L2.St} {H : Hp} {r n : Nat} {out : Nat → V} {p : Nat → Bool} {Q : VK} (hl : n ≤ 1000)
    (hit : ∀ F : List V → Hp → Prop, (∀ H1, Same H H1 → F [.int n] H1) → ta σ H F)
    (htt : ∀ z, z < n → ∀ (H' : Hp) (Qb : Bool → Hp → Prop), Same H H' → (∀ H'', Same H' H'' → Qb (p z) H'') → tt ((σ.set r none).set r (some (.int z))) H' Qb)
    (hte : ∀ z, z < n → p z = true → ∀ (H' : Hp) (Q' : VK), Same H H' → (∀ H'', Same H' H'' → Q' (out z) H'') → te ((σ.set r none).set r (some (.int z))) H' Q')
    (q : ∀ (D : Addr) (H' : Hp), H D = none → Same H H' → H' D = some (.lst (((List.range n).filter p).map out)) → Q (.ref D) H') :
    tLc (iRng1 ta) (gName r) tt te [r] σ H Q := by
  refine hit _ fun H1 s1 => ?_
  refine ⟨_, rfl, by omega, by omega, fun D nD => lc_range (lo := 0) (n := n) (fun i H' => Same H1 H' ∧ H' D = some (.lst (((List.range i).filter p).map out))) ⟨same_upd nD, upd_same⟩ ?_ ?_⟩
  · rintro i H' hi ⟨sm, hD⟩
    have hi : i < n := hi
    rw [Int.zero_add]
    refine ⟨?_, htt i hi H' _ (s1.trans sm) fun H2 s2 => ?_⟩
    · show ((σ.set r none).set r (some (.int i))).set r none = σ.set r none
      rw [List.set_set, List.set_set]
    · have et : (List.range (i + 1)).filter p = (List.range i).filter p ++ if p i = true then [i] else [] := by
        rw [List.range_succ, List.filter_append, List.filter_cons]
        rfl
      split
      · rename_i h1
        rw [if_pos h1] at et
        refine hte i hi h1 H2 _ ((s1.trans sm).trans s2) fun H3 s3 => ?_
        refine ⟨_, s3 _ _ (s2 _ _ hD), ?_, fun b o e => ?_, ?_⟩
        · rw [List.length_map]
          have := List.length_filter_le p (List.range i)
          rw [List.length_range] at this
          exact small1000 (by omega)
        · rw [upd_ne (ne_of_none e nD)]
          exact s3 _ _ (s2 _ _ (sm b o e))
        · rw [upd_same, et, List.map_append]
          rfl
      · rename_i h1
        rw [if_neg h1, List.append_nil] at et
        exact ⟨sm.trans s2, by rw [et]; exact s2 _ _ hD⟩
  · rintro H' ⟨sm, hD⟩
    exact q D H' (s1.free nD) (s1.trans sm) hD
/-! kinds of errors -/
inductive PKind where
  | tooMany | badWord | double | badNumber | empty | unknown
  deriving DecidableEq
def kcls (cs : ECs) : PKind → Addr
  | .tooMany => cs.tooMany
  | .badWord => cs.badWord
  | .double => cs.double
  | .badNumber => cs.badNumber
  | .empty => cs.empty
  | .unknown => cs.unknown
structure ErrKinds (K : PySem.W.Frag) (cs : ECs) (CH : Addr) : Prop where
  held : ∀ i, PySem.W.kitOne K (.ref (kcls cs i)) (.ref CH) = some true
  other : ∀ i j, i ≠ j → PySem.W.exmOne K (.ref (kcls cs i)) (.ref (kcls cs j)) = some false
/-! rows move to other lists -/
theorem SRowIn.keep {H H' : Hp} {a t : Addr} {r : SRow} (h : SRowIn H a t r) (e : Same H H') : SRowIn H' a t r := by
  obtain ⟨b, c, x, y, z, u⟩ := h
  exact ⟨b, c, e _ _ x, e _ _ y, e _ _ z, u⟩
theorem SRowIn.move {H H' : Hp} {a p t : Addr} {r : SRow} (h : SRowIn H a t r) (e : Same H H') (n : H p = none) : SRowIn H' p t r := by
  obtain ⟨b, c, x, y, z, u⟩ := h
  exact ⟨b, c, e _ _ x, e _ _ y, e _ _ z, ne_of_none y n, ne_of_none z n⟩
theorem Paired.same {H H' : Hp} {ts : List Addr} {prs : List (Str × Int)} (h : Paired (fun t (r : Str × Int) => H t = some (.tup [.str r.1, .int r.2])) ts prs) (e : Same H H') : Paired (fun t (r : Str × Int) => H' t = some (.tup [.str r.1, .int r.2])) ts prs := Paired.imp2 (fun _ _ h => e _ _ h) h
/-- good rows: a plan of them is built -/
structure GoodRows (prs : List (Str × Int)) (srs : List SRow) : Prop where
  pw : ∀ r ∈ prs, Wd r.1 ∧ 0 ≤ r.2 ∧ r.2 ≤ 2
  pn : (prs.map (·.1)).Nodup
  sw : ∀ r ∈ srs, Wd r.1 ∧ r.2.1 ≠ [] ∧ r.2.1.Nodup ∧ (∀ y ∈ r.2.1, y ∈ prs.map (·.1)) ∧ r.2.2.Nodup ∧ (∀ y ∈ r.2.2, y ∈ prs.map (·.1))
  sn : (srs.map (·.1)).Nodup
  p1 : 1 ≤ prs.length
  p7 : prs.length ≤ 7
  s1 : 1 ≤ srs.length
  s13 : srs.length ≤ 13
theorem nodup_snoc {α : Type} {l : List α} {a : α} (h : l.Nodup) (n : a ∉ l) : (l ++ [a]).Nodup := by
  rw [List.nodup_append]
  exact ⟨h, by simp, fun x hx y hy e => by rw [List.mem_singleton.mp hy] at e; rw [e] at hx; exact n hx⟩
theorem placesDue_none : ∀ {prs : List (Str × Int)} {seen : List Str}, (∀ r ∈ prs, Wd r.1 ∧ 0 ≤ r.2 ∧ r.2 ≤ 99) → (seen ++ prs.map (·.1)).Nodup → placesDue seen prs = none
  | [], _, _, _ => rfl
  | (w, n) :: r, seen, h, hn => by
    obtain ⟨h1, h2⟩ := h _ (List.mem_cons_self ..)
    have hn2 : ((seen ++ [w]) ++ r.map (·.1)).Nodup := by
      rw [List.append_assoc]
      exact hn
    have hw : w ∉ seen := fun q => by
      rw [List.nodup_append] at hn
      exact hn.2.2 w q w (List.mem_cons_self ..) rfl
    have h1 : wd w.cps.toList = true := h1
    have h2 : 0 ≤ n ∧ n ≤ 99 := h2
    rw [placesDue_cons, if_pos h1, if_neg hw, if_pos h2]
    exact placesDue_none (fun r hr => h r (List.mem_cons_of_mem _ hr)) hn2
theorem stepsDue_none {places : List Str} : ∀ {srs : List SRow} {seen : List Str}, (∀ r ∈ srs, Wd r.1 ∧ r.2.1 ≠ [] ∧ r.2.1.Nodup ∧ (∀ y ∈ r.2.1, y ∈ places) ∧ r.2.2.Nodup ∧ (∀ y ∈ r.2.2, y ∈ places)) → (seen ++ srs.map (·.1)).Nodup → stepsDue places seen srs = none
  | [], _, _, _ => rfl
  | s :: r, seen, h, hn => by
    obtain ⟨h1, h2, h3, h4, h5, h6⟩ := h _ (List.mem_cons_self ..)
    have hn2 : ((seen ++ [s.1]) ++ r.map (·.1)).Nodup := by
      rw [List.append_assoc]
      exact hn
    have hw : s.1 ∉ seen := fun q => by
      rw [List.nodup_append] at hn
      exact hn.2.2 s.1 q s.1 (List.mem_cons_self ..) rfl
    have e1 : chk places [] s.2.1 = none := chk_none.mpr ⟨h3, fun w hw => ⟨h4 w hw, by simp⟩⟩
    have e2 : chk places [] s.2.2 = none := chk_none.mpr ⟨h5, fun w hw => ⟨h6 w hw, by simp⟩⟩
    have e : stepDue places seen s = none := by
      unfold stepDue
      have h1 : wd s.1.cps.toList = true := h1
      rw [if_pos h1, if_neg hw, if_neg h2, e1, e2]
      rfl
    rw [stepsDue_cons, e]
    exact stepsDue_none (fun r hr => h r (List.mem_cons_of_mem _ hr)) hn2
theorem planDue_none {prs : List (Str × Int)} {srs : List SRow} (hp : ∀ r ∈ prs, Wd r.1 ∧ 0 ≤ r.2 ∧ r.2 ≤ 99) (hn : (prs.map (·.1)).Nodup)
    (hs : ∀ r ∈ srs, Wd r.1 ∧ r.2.1 ≠ [] ∧ r.2.1.Nodup ∧ (∀ y ∈ r.2.1, y ∈ prs.map (·.1)) ∧ r.2.2.Nodup ∧ (∀ y ∈ r.2.2, y ∈ prs.map (·.1))) (hm : (srs.map (·.1)).Nodup) (l1 : prs.length ≤ 12) (l2 : srs.length ≤ 16) : planDue prs srs = none := by
  unfold planDue
  rw [if_neg (by omega), if_neg (by omega), placesDue_none hp (by simpa using hn)]
  exact stepsDue_none hs (by simpa using hm)
theorem GoodRows.due {prs : List (Str × Int)} {srs : List SRow} (h : GoodRows prs srs) : planDue prs srs = none :=
  planDue_none (fun r hr => by have := h.pw r hr; exact ⟨this.1, this.2.1, by omega⟩) h.pn h.sw h.sn (by have := h.p7; omega) (by have := h.s13; omega)
end L2

set_option Elab.async false
set_option linter.all false
set_option maxRecDepth 100000
set_option maxHeartbeats 4000000
/-! Dicts with tuples as keys: setdefault, a walk over the values. -/
namespace L2
open PySem PySem.Spec PyProof.Rows PySem.HErr
section
variable {X : Cx}
theorem putK_add {κ : Type} [DecidableEq κ] {kvs : List (κ × V)} {k : κ} {v : V} (h : valV kvs k = none) : putK kvs k v = kvs ++ [(k, v)] := by
  unfold putK
  rw [if_neg]
  rw [valV_any, h]
  exact Bool.false_ne_true
/-- d.setdefault(k, x) -/
def rSetDefT : V → List V → Hp → VK → Prop := fun x xs H Q => ∃ (a : Addr) (kvs : List (List L2.Key × V)) (k : List L2.Key) (b : Addr) (d : V), x = .ref a ∧ xs = [.ref b, d] ∧ H a = some (.dT kvs) ∧ H b = some (.tup (k.map kV)) ∧ kvs.length < sizeLine ∧
  (∀ v, valV kvs k = some v → Q v H) ∧ (valV kvs k = none → Q d (upd H a (.dT (kvs ++ [(k, d)]))))
theorem mt_setdefT (hu : X.A.units + 1 < cLine) : MtR X "dict.setdefault" rSetDefT := by
  intro pins s σ H x xs v us Q I rx rxs h
  obtain ⟨a, kvs, k, b, d, rfl, rfl, ha, hb, hlt, q1, q2⟩ := h
  cases rx
  obtain ⟨u1, u2, rfl, r1, r2⟩ := vals2 rxs
  cases r1
  obtain ⟨z, hd, xs', rel, dd⟩ := dt_of I.hok ha
  have hz : xs'.length ≤ sizeLine := by rw [← Paired.length rel]; exact z
  refine call_meetsIn PySem.F.slot_dict_setdefault dd.typeIs PySem.F.entry_dict_setdefault (PySem.F.args_dict_setdefault_3 _ _ _) (meetsH_dict_setdefault (tupleKind (mixKind X.prog X.w)) a b hd u2)
    ⟨tupleKind_room_in1 hu, k, xs', key_of I.hok hb, dd, hz, fun p hp => ?_, fun hn h' dd' hs => ?_⟩
  · have r := rel.val k
    rw [hp] at r
    obtain ⟨v0, ev, rv⟩ : ∃ v0, valV kvs k = some v0 ∧ RelV v0 p.2 := by
      cases ev : valV kvs k with
      | none =>
        rw [ev] at r
        exact (show False from r).elim
      | some v0 =>
        rw [ev] at r
        exact ⟨v0, rfl, r⟩
    show EP X pins σ Q p.2 _
    exact ⟨v0, H, I.tok _, rv, q1 v0 ev⟩
  · have r := rel.val k
    rw [hn] at r
    have e : valV kvs k = none := by
      cases ev : valV kvs k with
      | none => rfl
      | some v0 =>
        rw [ev] at r
        exact (show False from r).elim
    have q := q2 e
    rw [← putK_add e] at q
    obtain ⟨o, es, ep, hq, h2, h3, h4, _, h5⟩ := dd'
    have I2 : Inv X pins σ (upd H a (.dT (putK kvs k d))) { s with heap := h', toks := s.toks + (tupleKind (mixKind X.prog X.w)).draws k } :=
      d_write I (by rw [ha]; exact True.intro) hs ⟨o, hq⟩ ⟨by rw [putK_add e, List.length_append]; exact hlt, hd, _, (rel.put k hb r2).keeps (fun c ys ec => (by rw [upd_ne (ne_of ec ha (fun z => nomatch z))]; exact ec)), o, es, ep, hq, h2, h3, h4, h5⟩
    show EP X pins σ Q u2 _
    exact ⟨d, _, I2, r2, q⟩
end
/-- the values of a locked dict with tuples as keys -/
def Itdt (d : Addr) (o : Obj) (kvs : List (List Key × V)) : It :=
  ⟨fun i H => H d = some (.frz o (.dT kvs)) ∧ i < kvs.length, fun i H x H' => H' = H ∧ ∃ k, kvs[i]? = some (k, x), fun i H => H d = some (.frz o (.dT kvs)) ∧ kvs.length ≤ i⟩
theorem Inv.frzTv {X : Cx} {pins : List (Addr × Obj)} {σ : St} {H : Hp} {s : Shared} {d : Addr} {o : Obj} {kvs : List (List Key × V)} (I : Inv X pins σ H s) (h : H d = some (.frz o (.dT kvs))) :
    (d == sysModules) = false ∧ s.heap.get? d = some o ∧ o.ExactDict ∧ ∃ (es : Array DictEntry) (ep : Nat), o.data = .dict es ep ∧ es.size = kvs.length ∧
      ∀ (i : Nat) (k : List Key) (v : V), kvs[i]? = some (k, v) → ∃ en : DictEntry, es[i]? = some en ∧ RelV v en.val := by
  obtain ⟨hd, z, hs, xs, pr, o', es, ep, ho, hx, hdt, he, _⟩ := I.hok d _ h
  rw [hd] at ho
  cases ho
  refine ⟨hs, hd, hx, es, ep, hdt, ?_, fun i k v e => ?_⟩
  · have l1 : es.size = xs.length := size_of_entries he
    have l2 : kvs.length = xs.length := Paired.length pr
    omega
  · obtain ⟨b, hb, e1, e2, e3⟩ := paired_get pr e
    have q := entry_at he i
    rw [hb] at q
    exact ⟨_, q, e3⟩
theorem turn_valsT {P : Program} {w : World} {K : PySem.W.Frag} {tg : Expr} {d : Addr} {o : Obj} {es : Array DictEntry} {ep : Nat} {kvs : List (List Key × V)} (it : Addr) (hod : o.data = .dict es ep) :
    Turn P w K tg (Itdt d o kvs) [it] it (fun i h => h.IsValIter it d i kvs.length ep) where
  mem := by simp
  obj := fun i h st b hb => by
    have e : b = it := by simpa using hb
    subst e
    obtain ⟨oi, e, c, dd⟩ := st
    exact ⟨oi, e, fun v z => by rw [dd] at z; cases z⟩
  keep := fun i h h' st k => st.at fun oi e => k it (by simp) oi e
  item := by
    intro X hP hw hK hc i pins s σ H E I hf st hg
    subst hP hw hK
    obtain ⟨hd, hi⟩ := hg
    obtain ⟨f0, f1, f2, f3, f4, f5⟩ := hf it (by simp)
    obtain ⟨hs, hgd, hx, es', ep', hdt, hsz, ent⟩ := I.frzTv hd
    obtain ⟨rfl, rfl⟩ := dict_ep hod hdt
    obtain ⟨⟨k, v⟩, hkv⟩ : ∃ p, kvs[i]? = some p := ⟨kvs[i], List.getElem?_eq_getElem hi⟩
    obtain ⟨en, hen, rv⟩ := ent i k v hkv
    rw [← hsz] at st
    have hie : i < es'.size := by omega
    have een : es'[i] = en := by
      rw [Array.getElem?_eq_getElem hie] at hen
      exact Option.some.inj hen
    refine wpAny_pyNext_values_item_raw st ⟨o, hgd, hx, hdt⟩ hie fun h' st' sb => ?_
    have I1 : Inv X pins σ H { s with heap := h' } := I.turned (t' := s.toks) (fun b ob hb e => (sb.2 b hb).trans e) f0 f1 f3 f4 f5
    obtain ⟨oi, e, c, dd⟩ := id st'
    rw [een]
    refine ⟨en.val, rfl, go_of (s := { s with heap := h' }) e c dd (by decide) ⟨v, H, I1, rv, ⟨rfl, k, hkv⟩, ?_, fun b hb => (hf b hb).1⟩⟩
    show h'.IsValIter it d (i + 1) kvs.length _
    rw [← hsz]
    exact st'
  done := by
    intro X hP hw hK hc i pins s σ H E I hf st hg
    subst hP hw hK
    obtain ⟨hd, hi⟩ := hg
    obtain ⟨f0, f1, f2, f3, f4, f5⟩ := hf it (by simp)
    obtain ⟨hs, hgd, hx, es', ep', hdt, hsz, ent⟩ := I.frzTv hd
    obtain ⟨rfl, rfl⟩ := dict_ep hod hdt
    rw [← hsz] at st
    exact wpAny_pyNext_values_end_raw (I.ok.hd hc) st ⟨o, hgd, hx, hdt⟩ (by omega) fun h' eb => ⟨rfl, I.turned (t' := s.toks) (fun b ob hb e => eb b ob hb e) f0 f1 f3 f4 f5⟩
  self := fun A i s Q E st h => wpAny_pyIter_valiter st h
def iValsT (td : TE) : TI := fun σ H R => td σ H fun x H1 => ∃ d o kvs, x = .ref d ∧ H1 d = some (.frz o (.dT kvs)) ∧ R (Itdt d o kvs) H1
theorem pi_valuesT {X : Cx} {tg e : Expr} {td : TE} {apos cpos : Pos} (he : PE X e td) (hbase : attributeBase e "values" X.env (eval e X.env) = eval e X.env := by rfl) (hline : (apos.endLine == cpos.line) = true := by rfl) : PI X tg (.Call (.Attribute e "values" apos) [] [] cpos) (iValsT td) := by
  refine ⟨fun pins s σ H R I h => ?_⟩
  refine wpAny_Call_method (T := "dict") (id := "dict.values") hbase rfl hline F.plainAttrs_dict F.slot_dict_values F.type_dict_values (thn (he.run pins s σ H _ I h) fun u s1 ⟨x, H1, I1, rx, d, o, kvs, ex, hd, q⟩ => ?_)
  subst ex
  obtain rfl : u = Value.ref d := rx
  obtain ⟨hs, hgd, hx, es, ep, hdt, hsz, ent⟩ := I1.frzTv hd
  have raw : s1.heap.DictRaw d es ep := ⟨o, hgd, hx, hdt⟩
  refine ⟨raw.typeIs, ?_, ?_⟩
  · intro b e
    cases e
    exact ⟨o, hgd, hx.2.1⟩
  have I2 : Inv X pins σ H1 { s1 with heap := s1.heap.push { cls := .type "dict_values", data := .fields #[.ref d] } } := I1.kept (t' := s1.toks) fun b ob q => Heap.get?_push_of_some _ q
  have fin : wpAny (model X.prog X.w) X.A (pyIter (.ref s1.heap.objs.size)) (PIE X pins σ tg R) X.xe { s1 with heap := s1.heap.push { cls := .type "dict_values", data := .fields #[.ref d] } } := by
    refine wpAny_pyIter_values_raw (d := d) ⟨_, Heap.get?_push_size _ rfl, rfl, rfl⟩ (raw.at fun ob e => Heap.get?_push_of_some _ e) (pi_one (tk := s1.toks) I2 _ (turn_valsT _ hdt) ⟨_, Heap.get?_push_size _ rfl, rfl, ?_⟩ q)
    rw [hsz] <;> rfl
  show wpAny _ _ (callWith cpos (.builtin "dict.values") [.ref d] [] []) _ X.xe s1
  exact method_meetsIn F.slot_dict_values F.entry_dict_values rfl (PySem.evalArgs_none ⟨rfl, raw.typeIs, F.args_dict_values_1 _, _, meets_dict_values_raw d hs, ⟨es, ep, raw⟩, fin⟩)
theorem walk_valuesT {d : Addr} {o : Obj} {kvs : List (List Key × V)} : Walk (Itdt d o kvs) kvs.length (fun H => H d = some (.frz o (.dT kvs))) (fun i H x H' => H' = H ∧ ∃ k, kvs[i]? = some (k, x)) :=
  ⟨fun _ _ hi q => ⟨q, hi⟩, fun _ q => ⟨q, Nat.le_refl _⟩, fun _ _ _ _ _ _ y => y⟩
end L2

set_option Elab.async false
set_option linter.all false
set_option maxRecDepth 100000
set_option maxHeartbeats 4000000

namespace Held
open PySem PySem.Spec PyProof.Rows L2 PySem.HErr

def topS (i : Nat) : Stmt := PySem.Challenge.pw_heldsteps_k13_whole_choices.main.body.getD i (.Pass ⟨0, 0, 0, 0⟩)
/-! ## box -/
section
variable {P : Program} {w : World} {K : PySem.W.Frag} {mg : Str → Option Value} {base : Heap}
abbrev s__law_next : Stmt := topS 29
theorem sc__law_next : FnScope ["_law_box_here", "_law_many", "_law_cell", "_law_value", "_law_mixed"] ["_law_box_here", "_law_many"] (defScope s__law_next) := ⟨rfl, rfl, rfl, by decide +kernel, rfl, by decide +kernel, by decide +kernel⟩
theorem fmod_box {x m : Int} (h : 0 < m) : 0 ≤ x.fmod m ∧ x.fmod m < m := ⟨Int.fmod_nonneg_of_pos _ h, Int.fmod_lt_of_pos _ h⟩
theorem big200 {m : Int} (h0 : 0 < m) (h : m ≤ 10 ^ 40) : m.natAbs < 2 ^ 200 := by
  have e : (10 : Int) ^ 40 < 2 ^ 200 := by decide
  have e2 : ((2 ^ 200 : Nat) : Int) = 2 ^ 200 := by decide
  omega
theorem ok_next {k : Nat} (B : Bl mg) (F : Src K mg "_law_next" s__law_next ["_law_box_here", "_law_many"]) : Def P w K mg base CX0 (k + 1) "_law_next" ["_law_box_here", "_law_many"] spNext := by
  refine F.ok sc__law_next (fun vs H Q E h => ?_) (fun f cdv A outer s H vs Q E hr h => ?_)
  · obtain ⟨b, l, many, rfl, _⟩ := h
    rfl
  · obtain ⟨b, l, many, rfl, hm, hm2, hbox, q⟩ := h
    obtain ⟨ns, i, c, r, hb, hl, hi, hlb⟩ := hbox.ex
    refine ⟨_, (C8.pss_cut (ps_if (PW.pt (pw_and (pt_cmpR op_eq (pe_ix (kix_list (K := K)) (pv 0) pe_int (fun _ _ => rfl)) pe_int (nomark _)) (pw_and1 (pt_cmpR op_lt (pe_ix (kix_list (K := K)) (pv 0) pe_int (fun _ _ => rfl)) (pe_callB (kcall_len (K := K)) (by rfl) B.len PySem.boot_len (pa_cons (pe_ix (kix_list (K := K)) (pv 0) pe_int (fun _ _ => rfl)) pa_nil)) (nomark _))))) (pss_cons (ps_asg (pe_ix (kix_list (K := K)) (pe_ix (kix_list (K := K)) (pv 0) pe_int (fun _ _ => rfl)) (pe_ix (kix_list (K := K)) (pv 0) pe_int (fun _ _ => rfl)) (fun _ _ => rfl)) (pg_name (i := 2) sc__law_next.nd rfl (Or.inl rfl)))
 (pss_cons (ps_asg (pe_op op_add (pe_ix (kix_list (K := K)) (pv 0) pe_int (fun _ _ => rfl)) pe_int) (pg_sub (pv 0) pe_int set_list))
 (pss_one (ps_if (pt_cmpR op_ge (pv 2) (pe_op op_pow pe_int pe_int) (nomark _)) (pss_one (ps_asg (pv 2) (pg_sub (pv 0) pe_int set_list))) (pss_one (ps_asg (pe_op op_modN (pe_callTy call_int1 (by rfl) B.int' (by decide +kernel) (pa_cons (pe_op op_add (pe_op op_add (pe_op op_mul (pe_ix (kix_list (K := K)) (pv 0) pe_int (fun _ _ => rfl)) pe_int) (pe_op op_mul (pv 2) pe_int)) (pe_ix (kix_list (K := K)) (pv 0) pe_int (fun _ _ => rfl))) pa_nil)) pe_int) (pg_sub (pv 0) pe_int set_list))))))) pss_nil)
 (pss_cons (ps_if (pt_cmpR op_gt (pe_ix (kix_list (K := K)) (pv 0) pe_int (fun _ _ => rfl)) pe_int (nomark _)) (pss_cons (ps_asg (pe_op op_modN (pe_callTy call_int1 (by rfl) B.int' (by decide +kernel) (pa_cons (pe_ix (kix_list (K := K)) (pv 0) pe_int (fun _ _ => rfl)) pa_nil)) (pv 1)) (pg_name (i := 3) sc__law_next.nd rfl (Or.inl rfl)))
 (pss_cons (ps_asg (pe_op op_fdivW (pe_ix (kix_list (K := K)) (pv 0) pe_int (fun _ _ => rfl)) (pv 1)) (pg_sub (pv 0) pe_int set_list))
 (pss_one (ps_ret (pv 3))))) pss_nil)
 (pss_cons (ps_asg (pe_op op_modN (pe_callTy call_int1 (by rfl) B.int' (by decide +kernel) (pa_cons (pe_op op_add (pe_op op_mul (pe_ix (kix_list (K := K)) (pv 0) pe_int (fun _ _ => rfl)) pe_int) pe_int) pa_nil)) pe_int) (pg_sub (pv 0) pe_int set_list))
 (pss_cons (ps_asg (pe_op op_modN (pe_callTy call_int1 (by rfl) B.int' (by decide +kernel) (pa_cons (pe_op op_add (pe_op op_add (pe_op op_mul (pe_ix (kix_list (K := K)) (pv 0) pe_int (fun _ _ => rfl)) pe_int) (pe_op op_mul (pe_ix (kix_list (K := K)) (pv 0) pe_int (fun _ _ => rfl)) pe_int)) pe_int) pa_nil)) pe_int) (pg_name (i := 4) sc__law_next.nd rfl (Or.inl rfl)))
 (pss_one (ps_ret (pe_op op_modN (pe_op op_fdivN (pv 4) pe_int) (pv 1)))))))), ?_⟩
    have hz : ∀ o : HO, (upd H b o) l = some (.lst (ns.map V.int)) := fun o => by rw [upd_ne hlb]; exact hl
    refine ⟨fun σ' H' => ∃ (i2 c2 r2 : Int) (y2 : Option V), 0 ≤ i2 ∧ H' = upd H b (.lst [.int i2, .int c2, .int r2, .ref l]) ∧ σ' = [some (.ref b), some (.int many), y2, none, none], ?_, ?_⟩
    · have hH : H = upd H b (.lst [.int i, .int c, .int r, .ref l]) := by
        funext a
        by_cases ha : a = b
        · rw [ha, upd_same, hb]
        · rw [upd_ne ha]
      refine ⟨_, rfl, b, _, _, _, rfl, rfl, SqL.of hb, rfl, rfl, _, rfl, ?_⟩
      refine ite2 (fun h1 => ?_) (fun h1 => ?_)
      · refine ⟨_, rfl, b, _, _, _, rfl, rfl, SqL.of hb, rfl, _, rfl, b, _, _, _, rfl, rfl, SqL.of hb, rfl, l, _, rfl, .inl (SqL.of hl), _, _, rfl, rfl, _, rfl, ?_⟩
        refine ite2 (fun h2 => ?_) (fun h2 => ?_)
        · have h2 : i < (ns.map V.int).length := of_decide_eq_true h2
          rw [List.length_map] at h2
          obtain ⟨j, rfl⟩ : ∃ j : Nat, i = j := ⟨i.toNat, by omega⟩
          have hj : j < ns.length := by omega
          have g : (ns.map V.int)[j]? = some (.int ns[j]) := by
            rw [List.getElem?_map, List.getElem?_eq_getElem hj]
            rfl
          refine ⟨_, rfl, b, _, _, _, rfl, rfl, SqL.of hb, rfl, _, rfl, b, _, _, _, rfl, rfl, SqL.of hb, rfl, l, _, _, _, rfl, rfl, SqL.of hl, atI_nat g, ?_⟩
          refine ⟨_, rfl, b, _, _, _, rfl, rfl, SqL.of hb, rfl, _, _, rfl, rfl, _, rfl, b, _, _, _, rfl, rfl, hb, rfl, ?_⟩
          refine ⟨_, rfl, _, _, rfl, rfl, ⟨by decide, by decide, by decide⟩, _, _, rfl, rfl, _, rfl, ?_⟩
          refine ite2 (fun h3 => ?_) (fun h3 => ?_)
          · refine ⟨_, rfl, _, rfl, b, _, _, _, rfl, rfl, upd_same, rfl, ?_⟩
            exact ⟨(j : Int) + 1, _, _, _, by omega, upd_twice, rfl⟩
          · have hu : (upd H b (.lst ([V.int (j : Int), V.int c, V.int r, V.ref l].set (Int.toNat 0) (V.int ((j : Int) + 1))))) b = some (.lst [.int ((j : Int) + 1), .int c, .int r, .ref l]) := upd_same
            refine ⟨_, rfl, b, _, _, _, rfl, rfl, SqL.of hu, rfl, _, _, rfl, rfl, .inr ⟨by decide, by decide⟩, _, rfl, _, _, rfl, rfl, .inr ⟨by decide, by decide⟩, _, _, rfl, rfl, _, rfl, b, _, _, _, rfl, rfl, SqL.of hu, rfl, _, _, rfl, rfl, .inl ⟨_, rfl, _, _, rfl, rfl, (show (2147483647 : Int) ≠ 0 by decide), ?_⟩⟩
            refine ⟨_, rfl, b, _, _, _, rfl, rfl, hu, rfl, ?_⟩
            exact ⟨(j : Int) + 1, _, _, _, by omega, upd_twice, rfl⟩
        · exact ⟨i, c, r, none, hi, hH, rfl⟩
      · exact ⟨i, c, r, none, hi, hH, rfl⟩
    · rintro σ' H' ⟨i2, c2, r2, y2, hi2, rfl, rfl⟩
      have hu : (upd H b (.lst [.int i2, .int c2, .int r2, .ref l])) b = some (.lst [.int i2, .int c2, .int r2, .ref l]) := upd_same
      refine ⟨_, rfl, b, _, _, _, rfl, rfl, SqL.of hu, rfl, _, _, rfl, rfl, _, rfl, ?_⟩
      refine ite2 (fun h1 => ?_) (fun h1 => ?_)
      · refine ⟨_, rfl, b, _, _, _, rfl, rfl, SqL.of hu, rfl, .inl ⟨_, rfl, _, rfl, _, _, rfl, rfl, by omega, ?_⟩⟩
        refine ⟨_, rfl, b, _, _, _, rfl, rfl, SqL.of hu, rfl, _, rfl, _, _, rfl, rfl, wide_div (b := 200) hm (big200 hm hm2) (by decide) (by decide), ?_⟩
        refine ⟨_, rfl, b, _, _, _, rfl, rfl, hu, rfl, ?_⟩
        refine ⟨_, rfl, ?_⟩
        rw [upd_twice]
        have f := fmod_box (x := c2) hm
        exact q _ _ f.1 f.2 ⟨(SameB.refl b H).upd, hbox, ns, i2, _, r2, upd_same, hz _, hi2, hlb⟩
      · refine ⟨_, rfl, b, _, _, _, rfl, rfl, SqL.of hu, rfl, _, _, rfl, rfl, .inr ⟨by decide, by decide⟩, _, _, rfl, rfl, .inl ⟨_, rfl, _, _, rfl, rfl, (show (2147483647 : Int) ≠ 0 by decide), ?_⟩⟩
        refine ⟨_, rfl, b, _, _, _, rfl, rfl, hu, rfl, ?_⟩
        rw [upd_twice]
        have hu2 : (upd H b (.lst ([V.int i2, V.int c2, V.int r2, V.ref l].set (Int.toNat 2) (V.int ((r2 * 48271 + 11).fmod 2147483647))))) b = some (.lst [.int i2, .int c2, .int ((r2 * 48271 + 11).fmod 2147483647), .ref l]) := upd_same
        refine ⟨_, rfl, b, _, _, _, rfl, rfl, SqL.of hu2, rfl, _, _, rfl, rfl, .inr ⟨by decide, by decide⟩, _, rfl, b, _, _, _, rfl, rfl, SqL.of hu2, rfl, _, _, rfl, rfl, .inr ⟨by decide, by decide⟩, _, _, rfl, rfl, _, _, rfl, rfl, .inl ⟨_, rfl, _, _, rfl, rfl, (show (2147483629 : Int) ≠ 0 by decide), ?_⟩⟩
        refine ⟨_, rfl, _, _, rfl, rfl, ⟨by decide, by decide⟩, _, rfl, _, _, rfl, rfl, by omega, ?_⟩
        exact q _ _ (fmod_box hm).1 (fmod_box hm).2 ⟨(SameB.refl b H).upd, hbox, ns, i2, _, _, upd_same, hz _, hi2, hlb⟩
abbrev s__law_box : Stmt := topS 28
theorem sc__law_box : FnScope ["_law_script", "_law_cell"] ["_law_script"] (defScope s__law_box) := ⟨rfl, rfl, rfl, by decide +kernel, rfl, by decide +kernel, by decide +kernel⟩
theorem ok_box {k : Nat} (B : Bl mg) (F : Src K mg "_law_box" s__law_box ["_law_script"]) : Def P w K mg base CX0 (k + 1) "_law_box" ["_law_script"] (spBox K) := by
  refine F.ok sc__law_box (fun vs H Q E h => ?_) (fun f cdv A outer s H vs Q E hr h => ?_)
  · obtain ⟨a, ns, rfl, _⟩ := h
    rfl
  · obtain ⟨a, ns, rfl, hS, hlen, q⟩ := h
    refine ⟨_, (pss_one (ps_ret (pe_lst (pa_cons pe_int (pa_cons pe_int (pa_cons pe_int (pa_cons (pe_lc (own := [("_law_cell", 1)]) (g := gName 1) (by rfl) sc__law_box.nd (kpi_list (K := K) (pv 0)) (blkOk_by (N := ["_law_script", "_law_cell"]) (sc := defScope s__law_box) (by decide +kernel)) (fun _ _ _ _ _ => (pg_name (i := 1) sc__law_box.nd rfl (Or.inl rfl))) (fun _ _ _ _ _ => pts_nil) (fun _ _ _ _ _ => (pe_callTy call_int1 (by rfl) B.int' (by decide +kernel) (pa_cons (pv 1) pa_nil)))) pa_nil))))))), ?_⟩
    refine ⟨_, rfl, a, rfl, ⟨_, hS⟩, fun D nD => lc_list (K := K) (a := a) (xs := ns.map V.int) (fun i H' => Same H H' ∧ H' D = some (.lst ((ns.take i).map V.int))) ⟨same_upd nD, upd_same⟩ (fun i H' _ h' => h'.1.seq hS) ?_ ?_⟩
    · rintro i x H' hi ⟨sm, hD⟩
      obtain ⟨z, hz, rfl⟩ : ∃ z, ns[i]? = some z ∧ V.int z = x := by
        rw [List.getElem?_map] at hi
        cases e : ns[i]? with
        | none => rw [e] at hi; cases hi
        | some z => rw [e] at hi; exact ⟨z, rfl, Option.some.inj hi⟩
      refine ⟨rfl, ?_⟩
      refine yes_if ?_
      refine ⟨_, rfl, .inl ⟨_, rfl, _, hD, ?_, ?_, ?_⟩⟩
      · rw [List.length_map, List.length_take]
        exact small1000 (by omega)
      · intro b o e
        rw [upd_ne (ne_of_none e nD)]
        exact sm b o e
      · rw [upd_same, List.take_add_one, hz, List.map_append]
        rfl
    · rintro H' ⟨sm, hD⟩
      rw [List.length_map, List.take_length] at hD
      refine ⟨by show 4 ≤ sizeLine; decide, fun p hp => ?_⟩
      have hpD : D ≠ p := ne_of_none hD hp
      exact q p D _ (sm.free hp) (sm.trans (same_upd hp)) ⟨ns, 0, 0, 7, upd_same, by rw [upd_ne hpD]; exact hD, by omega, hpD⟩
end

/-! ## words -/
section
variable {P : Program} {w : World} {K : PySem.W.Frag} {mg : Str → Option Value} {base : Heap}
abbrev s_is_word : Stmt := topS 17
theorem sc_is_word : FnScope ["word", "sign"] ["word"] (defScope s_is_word) := ⟨rfl, rfl, rfl, by decide +kernel, rfl, by decide +kernel, by decide +kernel⟩
def spIsWord : Sp := fun vs H Q _ => ∃ z : Str, vs = [.str z] ∧ z.length ≤ sizeLine ∧ ∀ H', Same H H' → Q (.bl (wd z.cps.toList)) H'
theorem ok_is_word {k : Nat} (B : Bl mg) (g_LETTERS : Glo mg "LETTERS" (.str LETTERS)) (g_DIGITS : Glo mg "DIGITS" (.str DIGITS)) (g_MOST_SIGNS : Glo mg "MOST_SIGNS" (.int 12)) (F : Src K mg "is_word" s_is_word ["word"]) : Def P w K mg base CX0 (k + 1) "is_word" ["word"] spIsWord := by
  refine F.ok sc_is_word (fun vs H Q E h => ?_) (fun f cdv A outer s H vs Q E hr h => ?_)
  · obtain ⟨z, rfl, _⟩ := h
    rfl
  · obtain ⟨z, rfl, hz, q⟩ := h
    refine ⟨_, (pss_cons (ps_if (pt_not (pt_chain op_le op_le pe_int (pe_callB call_len_str (by rfl) B.len PySem.boot_len (pa_cons (pv 0) pa_nil)) (pe_glo g_MOST_SIGNS))) (pss_one (ps_ret pe_bl)) pss_nil)
 (pss_cons (ps_if (pt_cmpR op_notIn_sign (pe_ix ix_str (pv 0) pe_int (fun _ _ => rfl)) (pe_glo g_LETTERS) rfl) (pss_one (ps_ret pe_bl)) pss_nil)
 (pss_one (ps_ret (pe_callB (kcr_all (K := K) rfl) (by rfl) B.all' (by decide +kernel) (pa_cons (pe_lc (own := [("sign", 1)]) (g := gName 1) (by rfl) sc_is_word.nd (pi_str (pv 0)) (blkOk_by (N := ["word", "sign"]) (sc := defScope s_is_word) (by decide +kernel)) (fun _ _ _ _ _ => (pg_name (i := 1) sc_is_word.nd rfl (Or.inl rfl))) (fun _ _ _ _ _ => pts_nil) (fun _ _ _ _ _ => (pe_or (pe_cmpR op_in_sign (pv 1) (pe_glo g_LETTERS) rfl) (pe_one (pe_cmpR op_in_sign (pv 1) (pe_glo g_DIGITS) rfl))))) pa_nil)))))), ?_⟩
    have hl := len_cps z
    have no : ∀ b : Bool, wd z.cps.toList = b → ∀ H', Same H H' → Q (.bl b) H' := fun b e H' s => by rw [← e]; exact q H' s
    -- not 1 <= len(word) <= 12
    refine ⟨_, rfl, _, rfl, hz, _, _, rfl, rfl, _, rfl, ?_⟩
    refine ite2 (fun h1 => ?_) (fun h1 => ?_)
    · have h1 : (1 : Int) ≤ z.length := of_decide_eq_true h1
      refine ⟨_, _, rfl, rfl, _, rfl, ?_⟩
      refine ite2 (fun h2 => ?_) (fun h2 => ?_)
      · have h2 : ¬ (z.length : Int) ≤ 12 := by simpa using h2
        refine no _ ?_ _ (Same.refl H)
        have : ¬ (1 ≤ z.cps.toList.length ∧ z.cps.toList.length ≤ 12) := by omega
        unfold wd
        rw [decide_eq_false this]
        rfl
      · have h2 : (z.length : Int) ≤ 12 := by simpa using h2
        -- word[0] not in LETTERS
        have hc : z.cps.toList[0]? = some (z.cps.toList.headD 0) := by
          cases e : z.cps.toList with
          | nil => rw [e] at hl; simp at hl; omega
          | cons a r => rfl
        have hw : (decide (1 ≤ z.cps.toList.length ∧ z.cps.toList.length ≤ 12)) = true := decide_eq_true (by omega)
        refine ⟨_, rfl, z, _, _, rfl, rfl, hz, atI_nat (j := 0) hc, _, _, rfl, rfl, _, rfl, ?_⟩
        refine ite2 (fun h3 => ?_) (fun h3 => ?_)
        · refine no _ ?_ _ (Same.refl H)
          have h3 : decide (z.cps.toList.headD 0 ∈ LETTERS.cps.toList) = false := by simpa using h3
          unfold wd
          rw [h3, Bool.false_and, Bool.and_false]
        · have h3 : decide (z.cps.toList.headD 0 ∈ LETTERS.cps.toList) = true := by simpa using h3
          have hv : wd z.cps.toList = z.cps.toList.all okc := by
            unfold wd
            rw [hw, h3, Bool.true_and, Bool.true_and]
          -- all([..])
          refine ⟨_, rfl, z, rfl, fun D nD => lc_it (walk_str (z := z)) (fun i H' => Same H H' ∧ H' D = some (.lst (((z.cps.toList.take i).map okc).map V.bl))) ⟨same_upd nD, upd_same⟩ (fun _ _ _ _ => trivial) ?_ ?_⟩
          · rintro i x H' H2 hi ⟨sm, hD⟩ ⟨rfl, c, hc, rfl⟩
            have hc2 : z.cps.toList[i]? = some c := by simpa using hc
            refine ⟨rfl, yes_if ?_⟩
            have fin : ∃ acc, H2 D = some (.lst acc) ∧ acc.length < sizeLine ∧ Same H (upd H2 D (.lst (acc ++ [V.bl (okc c)]))) ∧ upd H2 D (.lst (acc ++ [V.bl (okc c)])) D = some (.lst (((z.cps.toList.take (i + 1)).map okc).map V.bl)) := by
              refine ⟨_, hD, ?_, fun b o e => ?_, ?_⟩
              · rw [List.length_map, List.length_map, List.length_take]
                exact small1000 (by omega)
              · rw [upd_ne (ne_of_none e nD)]
                exact sm b o e
              · rw [upd_same, all_take hc2, List.map_append]
                rfl
            refine ⟨_, rfl, c, _, rfl, rfl, _, rfl, ?_⟩
            refine ite2 (fun h4 => ?_) (fun h4 => ?_)
            · have e : okc c = true := by unfold okc; rw [h4, Bool.true_or]
              rw [e] at fin
              exact fin
            · have h4 : decide (c ∈ LETTERS.cps.toList) = false := by simpa using h4
              have e : okc c = decide (c ∈ DIGITS.cps.toList) := by unfold okc; rw [h4, Bool.false_or]
              rw [e] at fin
              exact ⟨_, rfl, c, _, rfl, rfl, fin⟩
          · rintro H' ⟨sm, hD⟩
            have e : z.cps.toList.take z.cps.size = z.cps.toList := List.take_of_length_le (by simp)
            rw [e] at hD
            refine ⟨D, _, rfl, SqL.of hD, ?_⟩
            rw [all_id]
            exact no _ hv _ sm
    · have h1 : ¬ (1 : Int) ≤ z.length := by simpa using h1
      refine ⟨_, rfl, ?_⟩
      refine no _ ?_ _ (Same.refl H)
      have : ¬ (1 ≤ z.cps.toList.length ∧ z.cps.toList.length ≤ 12) := by omega
      unfold wd
      rw [decide_eq_false this]
      rfl
abbrev s_check_word : Stmt := topS 18
theorem sc_check_word : FnScope ["word"] ["word"] (defScope s_check_word) := ⟨rfl, rfl, rfl, by decide +kernel, rfl, by decide +kernel, by decide +kernel⟩
def spCheckWord (C : Addr) : Sp := fun vs H Q E => ∃ z : Str, vs = [.str z] ∧ z.length ≤ sizeLine ∧ (wd z.cps.toList = true → ∀ H', Same H H' → Q (.str z) H') ∧ (wd z.cps.toList = false → Rais E H C [("word", .str z)])
theorem ok_check_word {k : Nat} {C_BadWord f_BadWord : Addr} (X_BadWord : ErrTxt P K mg false "BadWord" C_BadWord f_BadWord ["word"]) (D_is_word : Def P w K mg base CX0 k "is_word" ["word"] spIsWord) (F : Src K mg "check_word" s_check_word ["word"]) :
    Def P w K mg base (L2.CX P w) (k + 1) "check_word" ["word"] (spCheckWord C_BadWord) := by
  refine F.okX sc_check_word (fun vs H Q E h => ?_) (fun f cdv A outer s H vs Q E hr h => ?_)
  · obtain ⟨z, rfl, _⟩ := h
    rfl
  · obtain ⟨z, rfl, hz, q1, q2⟩ := h
    refine ⟨_, (pss_cons (ps_if (pt_not (pt_val (pe_def D_is_word hr pass0 (pa_cons (pv 0) pa_nil)))) (pss_one (ps_raiseE rfl X_BadWord hr (takes_of rfl rfl rfl rfl) (pa_cons (pv 0) pa_nil))) pss_nil)
 (pss_one (ps_ret (pv 0)))), ?_⟩
    refine ⟨_, rfl, z, rfl, hz, fun H' sm => ⟨_, rfl, ?_⟩⟩
    refine ite2 (fun h1 => ?_) (fun h1 => ?_)
    · have h1 : wd z.cps.toList = false := by simpa using h1
      exact ⟨_, rfl, rfl, (fun e => by cases e), fun d hd => (q2 h1).go sm hd⟩
    · have h1 : wd z.cps.toList = true := by simpa using h1
      exact ⟨_, rfl, q1 h1 H' sm⟩
end

/-! ## names -/
section
variable {P : Program} {w : World} {K : PySem.W.Frag} {mg : Str → Option Value} {base : Heap}
abbrev s_check_number : Stmt := topS 19
theorem sc_check_number : FnScope ["number", "least", "most"] ["number", "least", "most"] (defScope s_check_number) := ⟨rfl, rfl, rfl, by decide +kernel, rfl, by decide +kernel, by decide +kernel⟩
def spCheckNumber (C : Addr) : Sp := fun vs H Q E => ∃ n lo hi : Int, vs = [.int n, .int lo, .int hi] ∧ (lo ≤ n ∧ n ≤ hi → Q (.int n) H) ∧ (¬ (lo ≤ n ∧ n ≤ hi) → Rais E H C [("number", .int n)])
theorem ok_check_number {k : Nat} {C_BadNumber f_BadNumber : Addr} (X_BadNumber : ErrTxt P K mg false "BadNumber" C_BadNumber f_BadNumber ["number"]) (F : Src K mg "check_number" s_check_number ["number", "least", "most"]) :
    Def P w K mg base (L2.CX P w) (k + 1) "check_number" ["number", "least", "most"] (spCheckNumber C_BadNumber) := by
  refine F.okX sc_check_number (fun vs H Q E h => ?_) (fun f cdv A outer s H vs Q E hr h => ?_)
  · obtain ⟨n, lo, hi, rfl, _⟩ := h
    rfl
  · obtain ⟨n, lo, hi, rfl, q1, q2⟩ := h
    refine ⟨_, (pss_cons (ps_if (PW.pt (pw_or (pt_cmpR op_lt (pv 0) (pv 1) (nomark _)) (pw_or1 (pt_cmpR op_gt (pv 0) (pv 2) (nomark _))))) (pss_one (ps_raiseE rfl X_BadNumber hr (takes_of rfl rfl rfl rfl) (pa_cons (pv 0) pa_nil))) pss_nil)
 (pss_one (ps_ret (pv 0)))), ?_⟩
    refine ⟨_, rfl, _, rfl, _, _, rfl, rfl, _, rfl, ?_⟩
    refine ite2 (fun h1 => ?_) (fun h1 => ?_)
    · have h1 : n < lo := of_decide_eq_true h1
      exact iteT ⟨_, rfl, rfl, (fun e => by cases e), fun d hd => (q2 (by omega)).go (Same.refl H) hd⟩
    · have h1 : ¬ n < lo := by simpa using h1
      refine ⟨_, rfl, _, rfl, _, _, rfl, rfl, _, rfl, ?_⟩
      refine ite2 (fun h2 => ?_) (fun h2 => ?_)
      · have h2 : hi < n := of_decide_eq_true h2
        exact ⟨_, rfl, rfl, (fun e => by cases e), fun d hd => (q2 (by omega)).go (Same.refl H) hd⟩
      · have h2 : ¬ hi < n := by simpa using h2
        exact ⟨_, rfl, q1 (by omega)⟩
abbrev s_check_names : Stmt := topS 20
theorem sc_check_names : FnScope ["names", "known", "seen", "name"] ["names", "known"] (defScope s_check_names) := ⟨rfl, rfl, rfl, by decide +kernel, rfl, by decide +kernel, by decide +kernel⟩
def spCheckNames (K : PySem.W.Frag) (CU CD : Addr) : Sp := fun vs H Q E => ∃ (a c : Addr) (ws ks : List Str), vs = [.ref a, .ref c] ∧ SqL K H a (ws.map V.str) ∧ Sq K H c (ks.map V.str) ∧ ws.length ≤ 1000 ∧
  (chk ks [] ws = none → ∀ (p : Addr) (H' : Hp), H p = none → Same H H' → H' p = some (.tup (ws.map V.str)) → Q (.ref p) H') ∧
  (∀ n, chk ks [] ws = some (true, n) → Rais E H CU [("name", .str n)]) ∧ (∀ n, chk ks [] ws = some (false, n) → Rais E H CD [("name", .str n)])
theorem ok_check_names {k : Nat} {C_UnknownName f_UnknownName C_DoubleName f_DoubleName : Addr} (B : Bl mg) (X_UnknownName : ErrTxt P K mg false "UnknownName" C_UnknownName f_UnknownName ["name"]) (X_DoubleName : ErrTxt P K mg false "DoubleName" C_DoubleName f_DoubleName ["name"])
    (F : Src K mg "check_names" s_check_names ["names", "known"]) : Def P w K mg base (L2.CX P w) (k + 1) "check_names" ["names", "known"] (spCheckNames K C_UnknownName C_DoubleName) := by
  refine F.okX sc_check_names (fun vs H Q E h => ?_) (fun f cdv A outer s H vs Q E hr h => ?_)
  · obtain ⟨a, c, ws, ks, rfl, _⟩ := h
    rfl
  · obtain ⟨a, c, ws, ks, rfl, ha, hc, hlen, q1, q2, q3⟩ := h
    refine ⟨_, (pss_cons (ps_asg (pe_lst pa_nil) (pg_name (i := 2) sc_check_names.nd rfl (Or.inl rfl)))
 (pss_cons (ps_for (passes_of rfl) rfl (kpi_list (K := K) (pv 0)) (pg_name (i := 3) sc_check_names.nd rfl (Or.inl rfl)) (pss_cons (ps_if (pt_cmpR (kop_notIn (K := K)) (pv 3) (pv 1) rfl) (pss_one (ps_raiseE rfl X_UnknownName hr (takes_of rfl rfl rfl rfl) (pa_cons (pv 3) pa_nil))) pss_nil)
 (pss_cons (ps_if (pt_cmpR (kop_in (K := K)) (pv 3) (pv 2) rfl) (pss_one (ps_raiseE rfl X_DoubleName hr (takes_of rfl rfl rfl rfl) (pa_cons (pv 3) pa_nil))) pss_nil)
 (pss_one (ps_expr (pe_bm PySem.F.plainAttrs_list PySem.F.slot_list_append PySem.F.type_list_append mt_append (pv 2) (pa_cons (pv 3) pa_nil)))))))
 (pss_one (ps_ret (pe_callTy (kcall_tuple (K := K)) (by rfl) B.tuple' (by decide +kernel) (pa_cons (pv 2) pa_nil)))))), ?_⟩
    refine ⟨Nat.zero_le _, fun D nD => ?_⟩
    have s1 : Same H (upd H D (.lst [])) := same_upd nD
    refine ⟨_, rfl, a, rfl, ⟨_, s1.seq ha⟩, for_list (K := K) (a := a) (xs := ws.map V.str) (fun i σ H' => ∃ y, σ = [some (.ref a), some (.ref c), some (.ref D), y] ∧ Same H H' ∧ H' D = some (.lst ((ws.take i).map V.str)) ∧ chk ks [] ws = chk ks (ws.take i) (ws.drop i))
      ⟨none, rfl, s1, upd_same, rfl⟩ (fun i σ H' _ h' => by obtain ⟨_, _, sm, _⟩ := h'; exact sm.seq ha) ?_ ?_⟩
    · rintro i x σ H' hi ⟨y, rfl, sm, hD, hk⟩
      obtain ⟨n, hn, rfl⟩ := map_get hi
      have hdr : ws.drop i = n :: ws.drop (i + 1) := List.drop_eq_getElem?_toList_append.trans (by rw [hn]; rfl)
      rw [hdr, chk_cons] at hk
      refine ⟨_, rfl, _, rfl, c, _, rfl, sm.sq hc, rfl, flat_strs _, _, rfl, ?_⟩
      rw [inV_strs]
      refine ite2 (fun h1 => ?_) (fun h1 => ?_)
      · have h1 : n ∉ ks := by simpa using h1
        rw [if_neg h1] at hk
        exact ⟨_, rfl, rfl, (fun e => by cases e), fun d hd => (q2 n hk).go sm hd⟩
      · have h1 : n ∈ ks := by simpa using h1
        rw [if_pos h1] at hk
        refine ⟨_, rfl, _, rfl, D, _, rfl, .inl (SqL.of hD), rfl, flat_strs _, _, rfl, ?_⟩
        rw [inV_strs]
        refine ite2 (fun h2 => ?_) (fun h2 => ?_)
        · have h2 : n ∈ ws.take i := by simpa using h2
          rw [if_pos h2] at hk
          exact ⟨_, rfl, rfl, (fun e => by cases e), fun d hd => (q3 n hk).go sm hd⟩
        · have h2 : n ∉ ws.take i := by simpa using h2
          rw [if_neg h2] at hk
          refine ⟨_, rfl, .inl ⟨rfl, _, SqL.of hD⟩, _, rfl, D, _, _, rfl, rfl, hD, ?_, ?_⟩
          · rw [List.length_map, List.length_take]
            exact small1000 (by omega)
          · refine ⟨_, rfl, fun b o e => ?_, ?_, ?_⟩
            · rw [upd_ne (ne_of_none e nD)]
              exact sm b o e
            · rw [upd_same, take_more hn, List.map_append]
              rfl
            · rw [take_more hn]
              exact hk
    · rintro σ H' ⟨y, rfl, sm, hD, hk⟩
      rw [List.length_map, List.take_length] at hD
      rw [List.length_map, List.drop_length] at hk
      exact ⟨_, rfl, D, _, rfl, .inl ⟨SqL.of hD, fun l hl => q1 hk l _ (sm.free hl) (sm.trans (same_upd hl)) upd_same⟩⟩
end

/-! ## lword -/
section
variable {P : Program} {w : World} {K : PySem.W.Frag} {mg : Str → Option Value} {base : Heap}
abbrev s__law_word : Stmt := topS 30
theorem sc__law_word : FnScope ["_law_box_here", "_law_letters", "_law_signs", "_law_size", "_law_word_here", "_law_k"] ["_law_box_here"] (defScope s__law_word) := ⟨rfl, rfl, rfl, by decide +kernel, rfl, by decide +kernel, by decide +kernel⟩
theorem get_in {l : List Nat} {n : Int} (h0 : 0 ≤ n) (h1 : n < l.length) : ∃ c, atI l n = some c ∧ c ∈ l := by
  obtain ⟨j, rfl⟩ : ∃ j : Nat, n = j := ⟨n.toNat, by omega⟩
  have hj : j < l.length := by omega
  exact ⟨l[j], atI_nat (List.getElem?_eq_getElem hj), List.getElem_mem hj⟩
theorem okc_sign {c : Nat} (h : c ∈ (LETTERS ++ DIGITS).cps.toList) : okc c = true := by
  rw [show (LETTERS ++ DIGITS).cps.toList = LETTERS.cps.toList ++ DIGITS.cps.toList by decide] at h
  unfold okc
  rw [Bool.or_eq_true, decide_eq_true_iff, decide_eq_true_iff]
  exact List.mem_append.mp h
def spWord : Sp := fun vs H Q _ => ∃ b l : Addr, vs = [.ref b] ∧ Box H b l ∧ ∀ (z : Str) (H' : Hp), Wd z → Bx b l H H' → Q (.str z) H'
theorem ok_word {k : Nat} (B : Bl mg) (D__law_next : Def P w K mg base CX0 k "_law_next" ["_law_box_here", "_law_many"] spNext) (F : Src K mg "_law_word" s__law_word ["_law_box_here"]) : Def P w K mg base CX0 (k + 1) "_law_word" ["_law_box_here"] spWord := by
  refine F.ok sc__law_word (fun vs H Q E h => ?_) (fun f cdv A outer s H vs Q E hr h => ?_)
  · obtain ⟨b, l, rfl, _⟩ := h
    rfl
  · obtain ⟨b, l, rfl, hb, q⟩ := h
    refine ⟨_, (pss_cons (ps_asg pe_str (pg_name (i := 1) sc__law_word.nd rfl (Or.inl rfl)))
 (pss_cons (ps_asg (pe_op op_add_str (pv 1) pe_str) (pg_name (i := 2) sc__law_word.nd rfl (Or.inl rfl)))
 (pss_cons (ps_asg (pe_op op_add pe_int (pe_def D__law_next hr pass0 (pa_cons (pv 0) (pa_cons pe_int pa_nil)))) (pg_name (i := 3) sc__law_word.nd rfl (Or.inl rfl)))
 (C8.pss_cut (ps_if (pt_cmpR op_eq (pe_def D__law_next hr pass0 (pa_cons (pv 0) (pa_cons pe_int pa_nil))) pe_int (nomark _)) (pss_one (ps_asg pe_int (pg_name (i := 3) sc__law_word.nd rfl (Or.inl rfl)))) pss_nil)
 (pss_cons (ps_asg (pe_ix ix_str (pv 1) (pe_def D__law_next hr pass0 (pa_cons (pv 0) (pa_cons pe_int pa_nil))) (fun _ _ => rfl)) (pg_name (i := 4) sc__law_word.nd rfl (Or.inl rfl)))
 (pss_cons (ps_for PassesOwn.never rfl (pi_range1 (by rfl) B.range (pa_cons (pe_op op_sub (pv 3) pe_int) pa_nil)) (pg_name (i := 5) sc__law_word.nd rfl (Or.inl rfl)) (pss_one (ps_asg (pe_op op_add_str (pv 4) (pe_ix ix_str (pv 2) (pe_def D__law_next hr pass0 (pa_cons (pv 0) (pa_cons pe_int pa_nil))) (fun _ _ => rfl))) (pg_name (i := 4) sc__law_word.nd rfl (Or.inl rfl)))))
 (pss_one (ps_ret (pv 4))))))))), ?_⟩
    refine ⟨_, rfl, _, _, rfl, rfl, by decide, ?_⟩
    refine ⟨_, rfl, b, l, 3, rfl, by decide, by decide, hb, fun n H1 n0 n1 s1 => ⟨_, _, rfl, rfl, ?_⟩⟩
    refine ⟨fun σ' H' => ∃ m : Int, 1 ≤ m ∧ m ≤ 12 ∧ σ' = [some (.ref b), some (.str LETTERS), some (.str (LETTERS ++ DIGITS)), some (.int m), none, none] ∧ Bx b l H H', ?_, ?_⟩
    · refine ⟨_, rfl, b, l, 8, rfl, by decide, by decide, s1.b1, fun n2 H2 _ _ s2 => ⟨rfl, _, rfl, ?_⟩⟩
      refine ite2 (fun h1 => ?_) (fun h1 => ?_)
      · exact ⟨12, by omega, by omega, rfl, s1.trans s2⟩
      · exact ⟨1 + n, by omega, by omega, rfl, s1.trans s2⟩
    · rintro σ' H' ⟨m, m1, m2, rfl, sm⟩
      refine ⟨_, rfl, _, rfl, b, l, 26, rfl, by decide, by decide, sm.b1, fun n3 H3 c0 c1 s3 => ?_⟩
      obtain ⟨c, hc, hcm⟩ := get_in (l := LETTERS.cps.toList) c0 (by show n3 < 26; exact c1)
      refine ⟨_, _, c, rfl, rfl, by decide, hc, ?_⟩
      refine ⟨_, rfl, _, _, rfl, rfl, m - 1, rfl, by omega, by omega, for_range (lo := 0) (n := (m - 1).toNat) (fun i σ H2 => ∃ (z : Str) (r : List Nat) (y : Option V), z.cps.toList = c :: r ∧ r.length = i ∧ (∀ d ∈ r, okc d = true) ∧ σ = [some (.ref b), some (.str LETTERS), some (.str (LETTERS ++ DIGITS)), some (.int m), some (.str z), y] ∧ Bx b l H H2)
        ⟨⟨#[c]⟩, [], none, rfl, rfl, (fun d hd => by cases hd), rfl, sm.trans s3⟩ ?_ ?_⟩
      · rintro i σ H2 hi ⟨z, r, y, hz, hr1, hr2, rfl, sm2⟩
        refine ⟨_, rfl, _, rfl, _, rfl, b, l, 36, rfl, by decide, by decide, sm2.b1, fun n4 H5 d0 d1 s5 => ?_⟩
        obtain ⟨c2, hc2, hcm2⟩ := get_in (l := (LETTERS ++ DIGITS).cps.toList) d0 (by show n4 < 36; exact d1)
        refine ⟨_, _, c2, rfl, rfl, by decide, hc2, _, _, rfl, rfl, ?_, ?_⟩
        · show z.length + 1 ≤ sizeLine
          rw [len_cps, hz, List.length_cons]
          exact Nat.le_trans (show r.length + 1 + 1 ≤ 1000 by omega) (by decide)
        · refine ⟨z ++ ⟨#[c2]⟩, r ++ [c2], _, ?_, by rw [List.length_append, hr1]; rfl, fun d hd => ?_, rfl, sm2.trans s5⟩
          · rw [Str.cps_append, Array.toList_append, hz]
            rfl
          · rcases List.mem_append.mp hd with h | h
            · exact hr2 d h
            · rw [List.mem_singleton.mp h]
              exact okc_sign hcm2
      · rintro σ H2 ⟨z, r, y, hz, hr1, hr2, rfl, sm2⟩
        refine ⟨_, rfl, q z H2 ?_ sm2⟩
        show wd z.cps.toList = true
        rw [hz]
        exact wd_cons hcm hr2 (by omega)
abbrev s__law_words : Stmt := topS 31
theorem sc__law_words : FnScope ["_law_box_here", "_law_many", "_law_words_here", "_law_turn", "_law_word_here", "_law_spare", "_law_k", "_law_other"] ["_law_box_here", "_law_many"] (defScope s__law_words) := ⟨rfl, rfl, rfl, by decide +kernel, rfl, by decide +kernel, by decide +kernel⟩
def spWords : Sp := fun vs H Q _ => ∃ (b l : Addr) (many : Nat), vs = [.ref b, .int many] ∧ many ≤ 30 ∧ Box H b l ∧ ∀ (p : Addr) (ws : List Str) (H' : Hp), ws.length = many → ws.Nodup → (∀ z ∈ ws, Wd z) → H p = none → Bx b l H H' → H' p = some (.lst (ws.map V.str)) → Q (.ref p) H'
theorem ok_words {k : Nat} (B : Bl mg) (D__law_word : Def P w K mg base CX0 k "_law_word" ["_law_box_here"] spWord) (F : Src K mg "_law_words" s__law_words ["_law_box_here", "_law_many"]) : Def P w K mg base CX0 (k + 1) "_law_words" ["_law_box_here", "_law_many"] spWords := by
  refine F.ok sc__law_words (fun vs H Q E h => ?_) (fun f cdv A outer s H vs Q E hr h => ?_)
  · obtain ⟨b, l, many, rfl, _⟩ := h
    rfl
  · obtain ⟨b, l, many, rfl, hm, hb, q⟩ := h
    refine ⟨_, (pss_cons (ps_asg (pe_lst pa_nil) (pg_name (i := 2) sc__law_words.nd rfl (Or.inr rfl)))
 (pss_cons (ps_for PassesOwn.never rfl (pi_range1 (by rfl) B.range (pa_cons (pv 1) pa_nil)) (pg_name (i := 3) sc__law_words.nd rfl (Or.inl rfl)) (pss_cons (ps_asg (pe_def D__law_word hr pass0 (pa_cons (pv 0) pa_nil)) (pg_name (i := 4) sc__law_words.nd rfl (Or.inr rfl)))
 (C8.pss_cut (ps_if (pt_cmpR (kop_in (K := K)) (pv 4) (pv 2) rfl) (pss_cons (ps_setLc (i := 5) (own := [("_law_k", 6)]) (g := gName 6) (by rfl) sc__law_words.nd rfl rfl (sw_true rfl rfl rfl (by decide +kernel)) (pi_range1 (by rfl) B.range (pa_cons pe_int pa_nil)) (blkOk_by (N := ["_law_box_here", "_law_many", "_law_words_here", "_law_turn", "_law_word_here", "_law_spare", "_law_k", "_law_other"]) (sc := defScope s__law_words) (by decide +kernel)) (fun _ _ _ _ _ => (pg_name (i := 6) sc__law_words.nd rfl (Or.inl rfl))) (fun _ _ _ _ _ => pts_nil) (fun _ _ _ _ _ => (pe_op op_add_str (pe_op op_add_str (pe_slice sl_str (pv 4) po_none (po_some pe_int)) pe_str) (pe_callTy call_str_int (by rfl) B.str' (by decide +kernel) (pa_cons (pv 6) pa_nil)))))
 (pss_cons (ps_setLc (i := 5) (own := [("_law_other", 7)]) (g := gName 7) (by rfl) sc__law_words.nd rfl rfl (sw_true rfl rfl rfl (by decide +kernel)) (kpi_list (K := K) (pv 5)) (blkOk_by (N := ["_law_box_here", "_law_many", "_law_words_here", "_law_turn", "_law_word_here", "_law_spare", "_law_k", "_law_other"]) (sc := defScope s__law_words) (by decide +kernel)) (fun _ _ _ _ _ => (pg_name (i := 7) sc__law_words.nd rfl (Or.inl rfl))) (fun _ _ _ _ _ => pts_one (pt_cmpR (kop_notIn (K := K)) (pv 7) (pv 2) rfl)) (fun _ _ _ _ _ => (pv 7)))
 (pss_one (ps_asg (pe_ix (kix_list (K := K)) (pv 5) pe_int (fun _ _ => rfl)) (pg_name (i := 4) sc__law_words.nd rfl (Or.inr rfl)))))) pss_nil)
 (pss_one (ps_expr (pe_bm PySem.F.plainAttrs_list PySem.F.slot_list_append PySem.F.type_list_append mt_append (pv 2) (pa_cons (pv 4) pa_nil)))))))
 (pss_one (ps_ret (pv 2))))), ?_⟩
    refine ⟨Nat.zero_le _, fun D nD => ?_⟩
    refine ⟨_, rfl, many, rfl, by omega, by omega, for_range (lo := 0) (n := many) (fun i σ H' => ∃ (ws : List Str) (y1 y2 y3 : Option V), σ = [some (.ref b), some (.int many), some (.ref D), y1, y2, y3, none, none] ∧ ws.length = i ∧ ws.Nodup ∧ (∀ z ∈ ws, Wd z) ∧ Bx b l H H' ∧ H' D = some (.lst (ws.map V.str)))
      ⟨[], none, none, none, rfl, rfl, List.nodup_nil, (fun z hz => by cases hz), hb.bx.new nD, upd_same⟩ ?_ ?_⟩
    · rintro i σ H' hi ⟨ws, y1, y2, y3, rfl, hl, hn, hw, sm, hD⟩
      refine ⟨_, rfl, b, l, rfl, sm.b1, fun z H2 hz s2 => ?_⟩
      have hD2 : H2 D = some (.lst (ws.map V.str)) := s2.at hD (hb.neb nD)
      have sm2 := sm.trans s2
      -- behind the if the word is new
      refine ⟨fun σ' H3 => ∃ (z' : Str) (y3 : Option V), σ' = [some (.ref b), some (.int many), some (.ref D), some (.int (0 + (i : Nat))), some (.str z'), y3, none, none] ∧ Wd z' ∧ z' ∉ ws ∧ Bx b l H H3 ∧ H3 D = some (.lst (ws.map V.str)), ?_, ?_⟩
      · refine ⟨_, rfl, _, rfl, D, _, rfl, .inl (SqL.of hD2), rfl, flat_strs _, _, rfl, ?_⟩
        rw [inV_strs]
        refine ite2 (fun h1 => ?_) (fun h1 => ?_)
        · -- thirty spares
          refine ⟨30, rfl, by decide, by decide, fun G nG => lc_range (lo := 0) (n := 30) (fun j H3 => Same H2 H3 ∧ H3 G = some (.lst (((List.range j).map (spare z)).map V.str))) ⟨same_upd nG, upd_same⟩ ?_ ?_⟩
          · rintro j H3 hj ⟨s3, hG⟩
            have l1 := cutS_length z none (some 9)
            have l2 := hz.len
            have hd := List.all_eq_true.mp digs30 j (List.mem_range.mpr hj)
            rw [Bool.and_eq_true, decide_eq_true_iff] at hd
            refine ⟨rfl, yes_if ?_⟩
            refine ⟨_, rfl, _, rfl, z, rfl, Nat.le_trans l2 (by decide), _, _, rfl, rfl, ?_, ?_⟩
            · show _ + 1 ≤ sizeLine
              exact Nat.le_trans (show _ + 1 ≤ 1000 by omega) (by decide)
            · refine ⟨_, rfl, (0 + (j : Nat) : Int), rfl, ?_, _, _, rfl, rfl, ?_, ?_⟩
              · have : (0 + (j : Nat) : Int).natAbs ≤ 2 ^ 10 := by omega
                exact Nat.lt_of_le_of_lt (Nat.log2_le_self _) (by omega)
              · rw [Str.length_append, Int.zero_add]
                show _ + 1 + (toString (j : Int) : Str).cps.toList.length ≤ sizeLine
                exact Nat.le_trans (show _ ≤ 1000 by omega) (by decide)
              · refine ⟨_, hG, ?_, fun b' o e => ?_, ?_⟩
                · rw [List.length_map, List.length_map, List.length_range]
                  exact small1000 (by omega)
                · rw [upd_ne (ne_of_none e nG)]
                  exact s3 b' o e
                · rw [upd_same, List.range_succ, List.map_append, List.map_append, Int.zero_add]
                  rfl
          · rintro H3 ⟨s3, hG⟩
            -- those that are not there yet
            have hD3 := s3 _ _ hD2
            refine ⟨_, rfl, G, rfl, ⟨_, SqL.of hG⟩, fun G2 nG2 => lc_list (K := K) (a := G) (xs := (spares z).map V.str) (fun j H4 => Same H3 H4 ∧ H4 G2 = some (.lst ((((spares z).take j).filter (fun o => decide (o ∉ ws))).map V.str))) ⟨same_upd nG2, upd_same⟩ (fun j H4 _ h4 => h4.1.seq (SqL.of hG)) ?_ ?_⟩
            · rintro j x H4 hj ⟨s4, hG2⟩
              obtain ⟨o, ho, rfl⟩ := map_get hj
              have hD4 := s4 _ _ hD3
              refine ⟨rfl, _, rfl, _, rfl, D, _, rfl, .inl (SqL.of hD4), rfl, flat_strs _, _, rfl, ?_⟩
              rw [inV_strs]
              have ht : ((spares z).take (j + 1)).filter (fun o => decide (o ∉ ws)) = ((spares z).take j).filter (fun o => decide (o ∉ ws)) ++ if o ∈ ws then [] else [o] := by
                rw [take_more ho, List.filter_append]
                by_cases h : o ∈ ws <;> simp [List.filter, h]
              refine ite2 (fun h2 => ?_) (fun h2 => ?_)
              · have h2 : o ∉ ws := by simpa using h2
                refine ⟨_, rfl, _, hG2, ?_, fun b' o' e => ?_, ?_⟩
                · rw [List.length_map]
                  refine small1000 (Nat.le_trans (List.length_filter_le _ _) ?_)
                  rw [List.length_take]
                  unfold spares
                  rw [List.length_map, List.length_range]
                  omega
                · rw [upd_ne (ne_of_none e nG2)]
                  exact s4 b' o' e
                · rw [upd_same, ht, if_neg h2, List.map_append]
                  rfl
              · have h2 : o ∈ ws := by simpa using h2
                refine ⟨s4, ?_⟩
                rw [ht, if_pos h2, List.append_nil]
                exact hG2
            · rintro H4 ⟨s4, hG2⟩
              rw [List.length_map, List.take_length] at hG2
              obtain ⟨y, r, e⟩ := spare_some (z := z) (ws := ws) (by omega)
              have hy : y ∈ (spares z).filter (fun o => decide (o ∉ ws)) := by rw [e]; exact List.mem_cons_self ..
              rw [e] at hG2
              obtain ⟨hy1, hy2⟩ := List.mem_filter.mp hy
              refine ⟨_, rfl, G2, _, _, _, rfl, rfl, SqL.of hG2, atI_nat (j := 0) (v := V.str y) rfl, ?_⟩
              exact ⟨y, _, rfl, spares_wd hz hy1, of_decide_eq_true hy2, (sm2.same s3).same s4, s4 _ _ hD3⟩
        · have h1 : z ∉ ws := by simpa using h1
          exact ⟨z, _, rfl, hz, h1, sm2, hD2⟩
      · rintro σ' H3 ⟨z', y3, rfl, hz', hni, sm3, hD3⟩
        refine ⟨_, rfl, .inl ⟨rfl, _, SqL.of hD3⟩, _, rfl, D, _, _, rfl, rfl, hD3, ?_, ?_⟩
        · rw [List.length_map]
          exact small1000 (by omega)
        · refine ⟨ws ++ [z'], _, _, _, rfl, by rw [List.length_append, hl]; rfl, ?_, fun x hx => ?_, sm3.mut nD, ?_⟩
          · rw [List.nodup_append]
            refine ⟨hn, by simp, fun a ha c hc e => hni ?_⟩
            rw [← List.mem_singleton.mp hc, ← e]
            exact ha
          · rcases List.mem_append.mp hx with h | h
            · exact hw x h
            · rw [List.mem_singleton.mp h]
              exact hz'
          · rw [upd_same, List.map_append]
            rfl
    · rintro σ H' ⟨ws, y1, y2, y3, rfl, hl, hn, hw, sm, hD⟩
      exact ⟨_, rfl, q D ws H' hl hn hw nD sm hD⟩
end

/-! ## g13 -/
section
variable {P : Program} {w : World} {K : PySem.W.Frag} {mg : Str → Option Value} {base : Heap}
/-- what is asked of the row of a step -/
def RowG (ws : List Str) (r : SRow) : Prop := Wd r.1 ∧ r.2.1 ≠ [] ∧ r.2.1.Nodup ∧ (∀ y ∈ r.2.1, y ∈ ws) ∧ r.2.2.Nodup ∧ (∀ y ∈ r.2.2, y ∈ ws)
def spGRows : Sp := fun vs H Q _ => ∃ (b l : Addr), vs = [.ref b] ∧ Box H b l ∧ ∀ (p ap as' : Addr) (prs : List (Str × Int)) (srs : List SRow) (H' : Hp), Bx b l H H' → H' p = some (.tup [.ref ap, .ref as']) → PRows H' ap prs → SRows H' as' srs → GoodRows prs srs → Q (.ref p) H'
abbrev s__law_pick : Stmt := topS 32
theorem sc__law_pick : FnScope ["_law_box_here", "_law_words_here", "_law_least", "_law_chosen", "_law_word_here"] ["_law_box_here", "_law_words_here", "_law_least"] (defScope s__law_pick) := ⟨rfl, rfl, rfl, by decide +kernel, rfl, by decide +kernel, by decide +kernel⟩
def spPick : Sp := fun vs H Q _ => ∃ (b l u : Addr) (us : List Str) (least : Nat), vs = [.ref b, .ref u, .int least] ∧ Box H b l ∧ H u = some (.lst (us.map V.str)) ∧ us ≠ [] ∧ us.Nodup ∧ us.length ≤ 30 ∧ least ≤ 1 ∧
  ∀ (p : Addr) (ws : List Str) (H' : Hp), ws.Nodup → (∀ y ∈ ws, y ∈ us) → least ≤ ws.length → H p = none → Bx b l H H' → H' p = some (.lst (ws.map V.str)) → Q (.ref p) H'
theorem ok_pick {k : Nat} (B : Bl mg) (D__law_next : Def P w K mg base CX0 k "_law_next" ["_law_box_here", "_law_many"] spNext) (F : Src K mg "_law_pick" s__law_pick ["_law_box_here", "_law_words_here", "_law_least"]) : Def P w K mg base CX0 (k + 1) "_law_pick" ["_law_box_here", "_law_words_here", "_law_least"] spPick := by
  refine F.ok sc__law_pick (fun vs H Q E h => ?_) (fun f cdv A outer s H vs Q E hr h => ?_)
  · obtain ⟨b, l, u, us, least, rfl, _⟩ := h
    rfl
  · obtain ⟨b, l, u, us, least, rfl, hb, hu, hne, hnd, hul, hle, q⟩ := h
    refine ⟨_, (pss_cons (ps_asg (pe_lst pa_nil) (pg_name (i := 3) sc__law_pick.nd rfl (Or.inl rfl)))
 (pss_cons (ps_for PassesOwn.never rfl (kpi_list (K := K) (pv 1)) (pg_name (i := 4) sc__law_pick.nd rfl (Or.inl rfl)) (pss_one (ps_if (pt_cmpR op_eq (pe_def D__law_next hr pass0 (pa_cons (pv 0) (pa_cons pe_int pa_nil))) pe_int (nomark _)) (pss_one (ps_expr (pe_bm PySem.F.plainAttrs_list PySem.F.slot_list_append PySem.F.type_list_append mt_append (pv 3) (pa_cons (pv 4) pa_nil)))) pss_nil)))
 (pss_cons (ps_if (pt_cmpR op_lt (pe_callB (kcall_len (K := K)) (by rfl) B.len PySem.boot_len (pa_cons (pv 3) pa_nil)) (pv 2) (nomark _)) (pss_one (ps_asg (pe_lst (pa_cons (pe_ix (kix_list (K := K)) (pv 1) (pe_def D__law_next hr pass0 (pa_cons (pv 0) (pa_cons (pe_callB (kcall_len (K := K)) (by rfl) B.len PySem.boot_len (pa_cons (pv 1) pa_nil)) pa_nil))) (fun _ _ => rfl)) pa_nil)) (pg_name (i := 3) sc__law_pick.nd rfl (Or.inl rfl)))) pss_nil)
 (pss_one (ps_ret (pv 3)))))), ?_⟩
    refine ⟨Nat.zero_le _, fun D nD => ?_⟩
    have s0 := hb.bx.new (o := .lst []) nD
    refine ⟨_, rfl, u, rfl, ⟨_, SqL.of (s0.strs hu)⟩, for_list (K := K) (a := u) (xs := us.map V.str) (fun i σ H' => ∃ (ws : List Str) (y : Option V), σ = [some (.ref b), some (.ref u), some (.int least), some (.ref D), y] ∧ ws.Sublist (us.take i) ∧ Bx b l H H' ∧ H' D = some (.lst (ws.map V.str)))
      ⟨[], none, rfl, .slnil, s0, upd_same⟩ (fun i σ H' _ ⟨_, _, _, _, sm, _⟩ => SqL.of (sm.strs hu)) ?_ ?_⟩
    · rintro i x σ H' hi ⟨ws, y, rfl, hsub, sm, hD⟩
      obtain ⟨z, hz, rfl⟩ := map_get hi
      refine ⟨_, rfl, b, l, 3, rfl, by decide, by decide, sm.b1, fun n H2 n0 n1 s2 => ⟨rfl, _, rfl, ?_⟩⟩
      have hD2 := s2.strs hD
      have hsz := hsub.length_le
      rw [List.length_take] at hsz
      refine ite2 (fun h1 => ?_) (fun h1 => ?_)
      · refine ⟨_, rfl, .inl ⟨rfl, _, SqL.of hD2⟩, _, rfl, D, _, _, rfl, rfl, hD2, ?_, ?_⟩
        · rw [List.length_map]
          exact small1000 (by omega)
        · refine ⟨ws ++ [z], _, rfl, ?_, (sm.trans s2).mut nD, by rw [upd_same, List.map_append]; rfl⟩
          rw [take_more hz]
          exact hsub.append (List.Sublist.refl _)
      · refine ⟨ws, _, rfl, ?_, sm.trans s2, hD2⟩
        rw [take_more hz]
        exact hsub.trans (List.sublist_append_left _ _)
    · rintro σ H' ⟨ws, y, rfl, hsub, sm, hD⟩
      rw [List.length_map, List.take_length] at hsub
      refine ⟨_, rfl, D, _, rfl, .inl (SqL.of hD), _, rfl, _, _, rfl, rfl, _, rfl, ?_⟩
      refine ite2 (fun h1 => ?_) (fun h1 => ?_)
      · have hpos : 0 < us.length := List.length_pos_iff.mpr hne
        have hu' := sm.strs hu
        refine ⟨_, rfl, _, rfl, _, rfl, u, _, rfl, .inl (SqL.of hu'), b, l, _, rfl, by rw [List.length_map]; omega, by rw [List.length_map]; exact Int.le_trans (show (us.length : Int) ≤ 1000 by omega) (by decide), sm.b1, fun m H3 b0 b1 s3 => ?_⟩
        rw [List.length_map] at b1
        obtain ⟨j, rfl⟩ : ∃ j : Nat, m = j := ⟨m.toNat, by omega⟩
        have hj : j < us.length := by omega
        have hg : (us.map V.str)[j]? = some (.str us[j]) := by rw [List.getElem?_map, List.getElem?_eq_getElem hj]; rfl
        refine ⟨u, _, _, _, rfl, rfl, SqL.of (s3.strs hu'), atI_nat hg, by show 1 ≤ sizeLine; decide, fun p np => ?_⟩
        have s4 := (sm.trans s3).new (o := .lst [.str us[j]]) np
        refine ⟨_, rfl, q p [us[j]] _ (by simp) (fun y hy => ?_) hle ((sm.trans s3).free np) s4 upd_same⟩
        rw [List.mem_singleton.mp hy]
        exact List.getElem_mem hj
      · have h1 : ¬ (ws.length : Int) < least := by
          rw [List.length_map] at h1
          simpa using h1
        exact ⟨_, rfl, q D ws H' (hsub.nodup hnd) (fun y hy => hsub.subset hy) (by omega) nD sm hD⟩
abbrev s__law_any : Stmt := topS 33
theorem sc__law_any : FnScope ["_law_box_here", "_law_words_here", "_law_places", "_law_word_here", "_law_steps", "_law_taken"] ["_law_box_here"] (defScope s__law_any) := ⟨rfl, rfl, rfl, by decide +kernel, rfl, by decide +kernel, by decide +kernel⟩
theorem ok_any {k : Nat} (B : Bl mg) (D__law_next : Def P w K mg base CX0 k "_law_next" ["_law_box_here", "_law_many"] spNext) (D__law_words : Def P w K mg base CX0 k "_law_words" ["_law_box_here", "_law_many"] spWords)
    (D__law_pick : Def P w K mg base CX0 k "_law_pick" ["_law_box_here", "_law_words_here", "_law_least"] spPick) (F : Src K mg "_law_any" s__law_any ["_law_box_here"]) : Def P w K mg base CX0 (k + 1) "_law_any" ["_law_box_here"] spGRows := by
  refine F.ok sc__law_any (fun vs H Q E h => ?_) (fun f cdv A outer s H vs Q E hr h => ?_)
  · obtain ⟨b, l, rfl, _⟩ := h
    rfl
  · obtain ⟨b, l, rfl, hb, q⟩ := h
    refine ⟨_, (pss_cons (ps_asg (pe_def D__law_words hr pass0 (pa_cons (pv 0) (pa_cons (pe_op op_add pe_int (pe_def D__law_next hr pass0 (pa_cons (pv 0) (pa_cons pe_int pa_nil)))) pa_nil))) (pg_name (i := 1) sc__law_any.nd rfl (Or.inl rfl)))
 (pss_cons (ps_asg (pe_lst pa_nil) (pg_name (i := 2) sc__law_any.nd rfl (Or.inl rfl)))
 (pss_cons (ps_for PassesOwn.never rfl (kpi_list (K := K) (pv 1)) (pg_name (i := 3) sc__law_any.nd rfl (Or.inl rfl)) (pss_one (ps_expr (pe_bm PySem.F.plainAttrs_list PySem.F.slot_list_append PySem.F.type_list_append mt_append (pv 2) (pa_cons (pe_tup (pa_cons (pv 3) (pa_cons (pe_def D__law_next hr pass0 (pa_cons (pv 0) (pa_cons pe_int pa_nil))) pa_nil))) pa_nil)))))
 (pss_cons (ps_asg (pe_lst pa_nil) (pg_name (i := 4) sc__law_any.nd rfl (Or.inl rfl)))
 (pss_cons (ps_for PassesOwn.never rfl (kpi_list (K := K) (pe_def D__law_words hr pass0 (pa_cons (pv 0) (pa_cons (pe_op op_add pe_int (pe_def D__law_next hr pass0 (pa_cons (pv 0) (pa_cons pe_int pa_nil)))) pa_nil)))) (pg_name (i := 3) sc__law_any.nd rfl (Or.inl rfl)) (pss_cons (ps_asg (pe_def D__law_pick hr pass0 (pa_cons (pv 0) (pa_cons (pv 1) (pa_cons pe_int pa_nil)))) (pg_name (i := 5) sc__law_any.nd rfl (Or.inl rfl)))
 (pss_one (ps_expr (pe_bm PySem.F.plainAttrs_list PySem.F.slot_list_append PySem.F.type_list_append mt_append (pv 4) (pa_cons (pe_tup (pa_cons (pv 3) (pa_cons (pv 5) (pa_cons (pe_def D__law_pick hr pass0 (pa_cons (pv 0) (pa_cons (pv 1) (pa_cons pe_int pa_nil)))) pa_nil)))) pa_nil))))))
 (pss_one (ps_ret (pe_tup (pa_cons (pv 2) (pa_cons (pv 4) pa_nil)))))))))), ?_⟩
    refine ⟨_, rfl, _, rfl, b, l, 5, rfl, by decide, by decide, hb, fun n H1 a0 a1 s1 => ⟨_, _, rfl, rfl, ?_⟩⟩
    obtain ⟨j, rfl⟩ : ∃ j : Nat, n = j := ⟨n.toNat, by omega⟩
    refine ⟨b, l, 1 + j, rfl, by omega, s1.b1, fun W ws H2 wl wn ww nW s2 hW => ?_⟩
    have s12 := s1.trans s2
    refine ⟨Nat.zero_le _, fun D nD => ?_⟩
    have s3 := s12.new (o := .lst []) nD
    have nDH := s12.free nD
    have hW3 := same_upd (o := .lst []) nD _ _ hW
    have nWD : W ≠ D := ne_of_none hW nD
    -- the places
    refine ⟨_, rfl, W, rfl, ⟨_, SqL.of hW3⟩, for_list (K := K) (a := W) (xs := ws.map V.str) (fun i σ H' => ∃ (prs : List (Str × Int)) (y : Option V), σ = [some (.ref b), some (.ref W), some (.ref D), y, none, none] ∧ prs.map (·.1) = ws.take i ∧ (∀ r ∈ prs, Wd r.1 ∧ 0 ≤ r.2 ∧ r.2 ≤ 2) ∧ Bx b l H H' ∧ H' W = some (.lst (ws.map V.str)) ∧ PRows H' D prs)
      ⟨[], none, rfl, rfl, (fun r hr => by cases hr), s3, hW3, ⟨[], upd_same, .nil⟩⟩ (fun i σ H' _ ⟨_, _, _, _, _, _, h, _⟩ => SqL.of h) ?_ ?_⟩
    · rintro i x σ H' hi ⟨prs, y, rfl, hp, hw, sm, hW', hP⟩
      obtain ⟨z, hz, rfl⟩ := map_get hi
      have hlp : prs.length ≤ 20 := by
        have := congrArg List.length hp
        rw [List.length_map, List.length_take] at this
        omega
      refine ⟨_, rfl, .inl ⟨rfl, _, SqL.of hP.choose_spec.1⟩, _, rfl, _, rfl, b, l, 3, rfl, by decide, by decide, sm.b1, fun n2 H3 b0 b1 s4 => ?_⟩
      refine ⟨by show 2 ≤ sizeLine; decide, fun t nt => ?_⟩
      have s5 := s4.new (o := .tup [.str z, .int n2]) nt
      obtain ⟨ts2, hts2, pts2⟩ := hP.bx s5
      refine ⟨D, _, _, rfl, rfl, hts2, ?_, ?_⟩
      · rw [List.length_map, Paired.len pts2]
        exact small1000 (by omega)
      · refine ⟨prs ++ [(z, n2)], _, rfl, by rw [List.map_append, hp, take_more hz]; rfl, fun r hr5 => ?_, (sm.trans s5).mut nDH, by rw [upd_ne nWD]; exact s5.strs hW', PRows.snoc hts2 pts2 upd_same⟩
        rcases List.mem_append.mp hr5 with h | h
        · exact hw r h
        · rw [List.mem_singleton.mp h]
          exact ⟨ww z (List.mem_of_getElem? hz), b0, by omega⟩
    · rintro σ H' ⟨prs, y, rfl, hp, hw, sm, hW', hP⟩
      rw [List.length_map, List.take_length] at hp
      refine ⟨Nat.zero_le _, fun D2 nD2 => ?_⟩
      have s4 := sm.new (o := .lst []) nD2
      have nD2H := sm.free nD2
      have hW4 := same_upd (o := .lst []) nD2 _ _ hW'
      have nWD2 : W ≠ D2 := ne_of_none hW' nD2
      have nDD2 : D ≠ D2 := ne_of_none hP.choose_spec.1 nD2
      have hP4 := hP.keep (same_upd (o := .lst []) nD2)
      -- the steps
      refine ⟨_, rfl, _, rfl, b, l, 6, rfl, by decide, by decide, s4.b1, fun n3 H4 c0 c1 s5 => ⟨_, _, rfl, rfl, ?_⟩⟩
      obtain ⟨j3, rfl⟩ : ∃ j : Nat, n3 = j := ⟨n3.toNat, by omega⟩
      refine ⟨b, l, 1 + j3, rfl, by omega, s5.b1, fun W2 ws2 H5 wl2 wn2 ww2 nW2 s6 hW2 => ?_⟩
      have s56 := s5.trans s6
      have hD5 : H5 D2 = some (.lst []) := s56.refs (ts := []) upd_same
      have nW2D2 : W2 ≠ D2 := fun e => by
        have := s5.refs (ts := []) (a := D2) upd_same
        rw [e, this] at nW2
        cases nW2
      refine ⟨W2, rfl, ⟨_, SqL.of hW2⟩, for_list (K := K) (a := W2) (xs := ws2.map V.str) (fun i σ G => ∃ (srs : List SRow) (y y5 : Option V), σ = [some (.ref b), some (.ref W), some (.ref D), y, some (.ref D2), y5] ∧ srs.map (·.1) = ws2.take i ∧ (∀ r ∈ srs, RowG ws r) ∧ Bx b l H G ∧ G W = some (.lst (ws.map V.str)) ∧ G W2 = some (.lst (ws2.map V.str)) ∧ PRows G D prs ∧ SRows G D2 srs)
        ⟨[], _, _, rfl, rfl, (fun r hr => by cases hr), s4.trans s56, s56.strs hW4, hW2, hP4.bx s56, ⟨[], hD5, .nil⟩⟩ (fun i σ H' _ ⟨_, _, _, _, _, _, _, _, h, _⟩ => SqL.of h) ?_ ?_⟩
      · rintro i x σ G hi ⟨srs, y, y5, rfl, hs, hsw, sg, gW, gW2, gP, gS⟩
        obtain ⟨z, hz, rfl⟩ := map_get hi
        have hls : srs.length ≤ 20 := by
          have := congrArg List.length hs
          rw [List.length_map, List.length_take] at this
          omega
        have wne : ws ≠ [] := fun e => by rw [e] at wl; simp at wl; omega
        refine ⟨_, rfl, _, rfl, b, l, W, ws, 1, rfl, sg.b1, gW, wne, wn, by omega, by omega, fun p1 t1 H6 d1 e1 l1 np1 s7 hp1 => ?_⟩
        have gS6 := gS.bx s7
        refine ⟨_, rfl, .inl ⟨rfl, _, SqL.of gS6.choose_spec.1⟩, _, rfl, _, rfl, _, rfl, _, rfl, b, l, W, ws, 0, rfl, s7.b1, s7.strs gW, wne, wn, by omega, by omega, fun p2 t2 H7 d2 e2 l2 np2 s8 hp2 => ?_⟩
        refine ⟨by show 3 ≤ sizeLine; decide, fun t nt => ?_⟩
        have s9 := (s7.trans s8).new (o := .tup [.str z, .ref p1, .ref p2]) nt
        obtain ⟨us3, hus3, pus3⟩ := gS.bx s9
        have q1D : p1 ≠ D2 := fun e => by
          obtain ⟨x, hx, _⟩ := gS
          rw [e, hx] at np1
          cases np1
        have q2D : p2 ≠ D2 := fun e => by
          obtain ⟨x, hx, _⟩ := gS6
          rw [e, hx] at np2
          cases np2
        refine ⟨D2, _, _, rfl, rfl, hus3, ?_, ?_⟩
        · rw [List.length_map, Paired.len pus3]
          exact small1000 (by omega)
        · refine ⟨srs ++ [(z, t1, t2)], _, _, rfl, by rw [List.map_append, hs, take_more hz]; rfl, fun r hr5 => ?_, (sg.trans s9).mut nD2H, by rw [upd_ne nWD2]; exact s9.strs gW, by rw [upd_ne nW2D2]; exact s9.strs gW2, ?_, SRows.snoc hus3 pus3 ⟨p1, p2, upd_same, same_upd nt _ _ (s8.strs hp1), same_upd nt _ _ hp2, q1D, q2D⟩⟩
          · rcases List.mem_append.mp hr5 with h | h
            · exact hsw r h
            · rw [List.mem_singleton.mp h]
              exact ⟨ww2 z (List.mem_of_getElem? hz), fun e => by rw [show t1 = [] from e] at l1; simp at l1, d1, e1, d2, e2⟩
          · obtain ⟨tp5, e1, e2⟩ := gP.bx s9
            refine ⟨tp5, by rw [upd_ne nDD2]; exact e1, Paired.imp2 (fun c r e => ?_) e2⟩
            rw [upd_ne (fun z => by rw [z, hus3] at e; cases e)]
            exact e
      · rintro σ G ⟨srs, y, y5, rfl, hs, hsw, sg, gW, gW2, gP, gS⟩
        rw [List.length_map, List.take_length] at hs
        refine ⟨_, rfl, _, rfl, by show 2 ≤ sizeLine; decide, fun p np => ?_⟩
        have lp : prs.length = ws.length := by rw [← hp, List.length_map]
        have ls : srs.length = ws2.length := by rw [← hs, List.length_map]
        exact q p D D2 prs srs _ (sg.new np) upd_same (gP.keep (same_upd np)) (gS.keep (same_upd np)) ⟨hw, by rw [hp]; exact wn, fun r hr5 => by rw [hp]; exact hsw r hr5, by rw [hs]; exact wn2, by omega, by omega, by omega, by omega⟩
end

/-! ## g13f -/
section
variable {P : Program} {w : World} {K : PySem.W.Frag} {mg : Str → Option Value} {base : Heap}
/-- lists of texts at addresses of their own -/
structure Lots (H : Hp) (as : List Addr) (gs : List (List Str)) : Prop where
  len : as.length = gs.length
  nd : as.Nodup
  at_ : ∀ (i : Nat) (a : Addr), as[i]? = some a → ∃ g, gs[i]? = some g ∧ H a = some (.lst (g.map V.str))
theorem Lots.bx {b l : Addr} {H H' : Hp} {as : List Addr} {gs : List (List Str)} (h : Lots H as gs) (e : Bx b l H H') : Lots H' as gs :=
  ⟨h.len, h.nd, fun i a ha => by
    obtain ⟨g, h1, h2⟩ := h.at_ i a ha
    exact ⟨g, h1, e.strs h2⟩⟩
theorem Lots.keep {H H' : Hp} {as : List Addr} {gs : List (List Str)} (h : Lots H as gs) (e : Same H H') : Lots H' as gs :=
  ⟨h.len, h.nd, fun i a ha => by
    obtain ⟨g, h1, h2⟩ := h.at_ i a ha
    exact ⟨g, h1, e _ _ h2⟩⟩
theorem Lots.other {H : Hp} {as : List Addr} {gs : List (List Str)} {D : Addr} {o : HO} (h : Lots H as gs) (n : D ∉ as) : Lots (upd H D o) as gs :=
  ⟨h.len, h.nd, fun i a ha => by
    obtain ⟨g, h1, h2⟩ := h.at_ i a ha
    refine ⟨g, h1, ?_⟩
    rw [upd_ne (fun e => n (by rw [← e]; exact List.mem_of_getElem? ha))]
    exact h2⟩
theorem Lots.put {H : Hp} {as : List Addr} {gs : List (List Str)} {j : Nat} {a : Addr} {g : List Str} (h : Lots H as gs) (ha : as[j]? = some a) : Lots (upd H a (.lst (g.map V.str))) as (gs.set j g) := by
  have hj : j < as.length := by
    rcases Nat.lt_or_ge j as.length with h | h
    · exact h
    · rw [List.getElem?_eq_none h] at ha
      cases ha
  refine ⟨by rw [List.length_set]; exact h.len, h.nd, fun i c hc => ?_⟩
  by_cases e : i = j
  · rw [e] at hc ⊢
    have hca : c = a := by
      rw [ha] at hc
      exact (Option.some.inj hc).symm
    refine ⟨g, ?_, by rw [hca]; exact upd_same⟩
    rw [List.getElem?_set_self (by rw [← h.len]; exact hj)]
  · obtain ⟨g', h1, h2⟩ := h.at_ i c hc
    refine ⟨g', by rw [List.getElem?_set_ne (Ne.symm e)]; exact h1, ?_⟩
    have ne : c ≠ a := fun q => by
      have hi : i < as.length := by
        rcases Nat.lt_or_ge i as.length with h | h
        · exact h
        · rw [List.getElem?_eq_none h] at hc
          cases hc
      rw [List.getElem?_eq_getElem hi] at hc
      rw [List.getElem?_eq_getElem hj] at ha
      have := (List.getElem_inj h.nd).mp ((Option.some.inj hc).trans (q.trans (Option.some.inj ha).symm))
      exact e this
    rw [upd_ne ne]
    exact h2
/-- [[] for x in xs] -/
theorem lc_empties {σ : L2.St} {H : Hp} {j r : Nat} {a : Addr} {ws : List Str} {Q : VK} (ha : H a = some (.lst (ws.map V.str))) (hl : ws.length ≤ 1000)
    (hσ : σ[j]? = some (some (.ref a))) (q : ∀ (D : Addr) (as : List Addr) (H' : Hp), H D = none → (∀ a ∈ as, H a = none) → D ∉ as → Same H H' → H' D = some (.lst (as.map V.ref)) → Lots H' as (ws.map fun _ => []) → Q (.ref D) H') :
    tLc (iList K (tVar j)) (gName r) tYes (tLst tNil) [r] σ H Q := by
  refine ⟨_, hσ, a, rfl, ⟨_, SqL.of ha⟩, fun D nD => lc_list (K := K) (a := a) (xs := ws.map V.str) (fun i H' => ∃ as : List Addr, as.length = i ∧ as.Nodup ∧ D ∉ as ∧ (∀ a ∈ as, H a = none ∧ H' a = some (.lst [])) ∧ Same H H' ∧ H' D = some (.lst (as.map V.ref)))
    ⟨[], rfl, .nil, by simp, (fun a h => by cases h), same_upd nD, upd_same⟩ (fun i H' _ ⟨_, _, _, _, _, sm, _⟩ => SqL.of (sm _ _ ha)) ?_ ?_⟩
  · rintro i x H' hi ⟨as, h1, h2, h3, h4, sm, hD⟩
    obtain ⟨z, hz, rfl⟩ := map_get hi
    have hi2 : i < ws.length := by
      rcases Nat.lt_or_ge i ws.length with h | h
      · exact h
      · rw [List.getElem?_eq_none h] at hz
        cases hz
    refine ⟨?_, yes_if ?_⟩
    · show ((σ.set r none).set r (some (V.str z))).set r none = σ.set r none
      rw [List.set_set, List.set_set]
    · refine ⟨Nat.zero_le _, fun p np => ?_⟩
      have nDp : D ≠ p := ne_of_none hD np
      refine ⟨_, by rw [upd_ne nDp]; exact hD, ?_, as ++ [p], by rw [List.length_append, h1]; rfl, nodup_snoc h2 (fun hp => by rw [(h4 p hp).2] at np; cases np), ?_, ?_, ?_, ?_⟩
      · rw [List.length_map]
        exact small1000 (by omega)
      · intro hm
        rcases List.mem_append.mp hm with h | h
        · exact h3 h
        · exact nDp (List.mem_singleton.mp h)
      · intro c hc
        rcases List.mem_append.mp hc with h | h
        · refine ⟨(h4 c h).1, ?_⟩
          rw [upd_ne (fun e => h3 (by rw [← e]; exact h)), upd_ne (ne_of_none (h4 c h).2 np)]
          exact (h4 c h).2
        · rw [List.mem_singleton.mp h]
          refine ⟨sm.free np, ?_⟩
          rw [upd_ne (Ne.symm nDp)]
          exact upd_same
      · exact (sm.trans (same_upd np)).mut nD
      · rw [upd_same, List.map_append]
        rfl
  · rintro H' ⟨as, h1, h2, h3, h4, sm, hD⟩
    rw [List.length_map] at h1
    refine q D as H' nD (fun a h => (h4 a h).1) h3 sm hD ⟨by rw [List.length_map]; exact h1, h2, fun i c hc => ⟨[], ?_, (h4 c (List.mem_of_getElem? hc)).2⟩⟩
    have hi : i < ws.length := by
      rw [← h1]
      rcases Nat.lt_or_ge i as.length with h | h
      · exact h
      · rw [List.getElem?_eq_none h] at hc
        cases hc
    rw [List.getElem?_map, List.getElem?_eq_getElem hi]
    rfl
abbrev s__law_free : Stmt := topS 34
theorem sc__law_free : FnScope ["_law_box_here", "_law_words_here", "_law_places", "_law_groups_here", "_law_word_here", "_law_group", "_law_names", "_law_steps", "_law_turn"] ["_law_box_here"] (defScope s__law_free) := ⟨rfl, rfl, rfl, by decide +kernel, rfl, by decide +kernel, by decide +kernel⟩
theorem ok_free {k : Nat} (B : Bl mg) (D__law_next : Def P w K mg base CX0 k "_law_next" ["_law_box_here", "_law_many"] spNext) (D__law_words : Def P w K mg base CX0 k "_law_words" ["_law_box_here", "_law_many"] spWords)
    (D__law_pick : Def P w K mg base CX0 k "_law_pick" ["_law_box_here", "_law_words_here", "_law_least"] spPick) (F : Src K mg "_law_free" s__law_free ["_law_box_here"]) : Def P w K mg base CX0 (k + 1) "_law_free" ["_law_box_here"] spGRows := by
  refine F.ok sc__law_free (fun vs H Q E h => ?_) (fun f cdv A outer s H vs Q E hr h => ?_)
  · obtain ⟨b, l, rfl, _⟩ := h
    rfl
  · obtain ⟨b, l, rfl, hb, q⟩ := h
    refine ⟨_, (pss_cons (ps_asg (pe_def D__law_words hr pass0 (pa_cons (pv 0) (pa_cons (pe_op op_add pe_int (pe_def D__law_next hr pass0 (pa_cons (pv 0) (pa_cons pe_int pa_nil)))) pa_nil))) (pg_name (i := 1) sc__law_free.nd rfl (Or.inl rfl)))
 (pss_cons (ps_asg (pe_lst pa_nil) (pg_name (i := 2) sc__law_free.nd rfl (Or.inl rfl)))
 (pss_cons (ps_setLc (i := 3) (own := [("_law_word_here", 4)]) (g := gName 4) (by rfl) sc__law_free.nd rfl rfl (sw_true rfl rfl rfl (by decide +kernel)) (kpi_list (K := K) (pv 1)) (blkOk_by (N := ["_law_box_here", "_law_words_here", "_law_places", "_law_groups_here", "_law_word_here", "_law_group", "_law_names", "_law_steps", "_law_turn"]) (sc := defScope s__law_free) (by decide +kernel)) (fun _ _ _ _ _ => (pg_name (i := 4) sc__law_free.nd rfl (Or.inl rfl))) (fun _ _ _ _ _ => pts_nil) (fun _ _ _ _ _ => (pe_lst pa_nil)))
 (pss_cons (ps_for PassesOwn.never rfl (kpi_list (K := K) (pv 1)) (pg_name (i := 4) sc__law_free.nd rfl (Or.inl rfl)) (pss_cons (ps_expr (pe_bm PySem.F.plainAttrs_list PySem.F.slot_list_append PySem.F.type_list_append mt_append (pv 2) (pa_cons (pe_tup (pa_cons (pv 4) (pa_cons (pe_def D__law_next hr pass0 (pa_cons (pv 0) (pa_cons pe_int pa_nil))) pa_nil))) pa_nil)))
 (pss_cons (ps_asg (pe_ix (kix_list (K := K)) (pv 3) (pe_def D__law_next hr pass0 (pa_cons (pv 0) (pa_cons (pe_callB (kcall_len (K := K)) (by rfl) B.len PySem.boot_len (pa_cons (pv 1) pa_nil)) pa_nil))) (fun _ _ => rfl)) (pg_name (i := 5) sc__law_free.nd rfl (Or.inl rfl)))
 (pss_one (ps_expr (pe_bm PySem.F.plainAttrs_list PySem.F.slot_list_append PySem.F.type_list_append mt_append (pv 5) (pa_cons (pv 4) pa_nil)))))))
 (pss_cons (ps_asg (pe_def D__law_words hr pass0 (pa_cons (pv 0) (pa_cons pe_int pa_nil))) (pg_name (i := 6) sc__law_free.nd rfl (Or.inl rfl)))
 (pss_cons (ps_asg (pe_lst pa_nil) (pg_name (i := 7) sc__law_free.nd rfl (Or.inl rfl)))
 (pss_cons (ps_for PassesOwn.never rfl (kpi_list (K := K) (pv 3)) (pg_name (i := 5) sc__law_free.nd rfl (Or.inl rfl)) (pss_one (ps_if (pt_cmpR (kop_neD (K := K) hr.units) (pv 5) (pe_lst pa_nil) (nomark _)) (pss_one (ps_for PassesOwn.never rfl (pi_range1 (by rfl) B.range (pa_cons (pe_op op_add pe_int (pe_def D__law_next hr pass0 (pa_cons (pv 0) (pa_cons pe_int pa_nil)))) pa_nil)) (pg_name (i := 8) sc__law_free.nd rfl (Or.inl rfl)) (pss_one (ps_expr (pe_bm PySem.F.plainAttrs_list PySem.F.slot_list_append PySem.F.type_list_append mt_append (pv 7) (pa_cons (pe_tup (pa_cons (pe_ix (kix_list (K := K)) (pv 6) (pe_callB (kcall_len (K := K)) (by rfl) B.len PySem.boot_len (pa_cons (pv 7) pa_nil)) (fun _ _ => rfl)) (pa_cons (pe_callTy (kcall_list (K := K)) (by rfl) B.list' (by decide +kernel) (pa_cons (pv 5) pa_nil)) (pa_cons (pe_def D__law_pick hr pass0 (pa_cons (pv 0) (pa_cons (pv 1) (pa_cons pe_int pa_nil)))) pa_nil)))) pa_nil)))))) pss_nil)))
 (pss_one (ps_ret (pe_tup (pa_cons (pv 2) (pa_cons (pv 7) pa_nil)))))))))))), ?_⟩
    refine ⟨_, rfl, _, rfl, b, l, 5, rfl, by decide, by decide, hb, fun n H1 a0 a1 s1 => ⟨_, _, rfl, rfl, ?_⟩⟩
    obtain ⟨j, rfl⟩ : ∃ j : Nat, n = j := ⟨n.toNat, by omega⟩
    refine ⟨b, l, 1 + j, rfl, by omega, s1.b1, fun W ws H2 wl wn ww nW s2 hW => ?_⟩
    have s12 := s1.trans s2
    have wne : ws ≠ [] := fun e => by rw [e] at wl; simp at wl; omega
    refine ⟨Nat.zero_le _, fun D nD => ?_⟩
    have s3 := s12.new (o := .lst []) nD
    have nDH := s12.free nD
    have hW3 := same_upd (o := .lst []) nD _ _ hW
    have nWD : W ≠ D := ne_of_none hW nD
    -- the groups
    refine go_name ?_
    dsimp only
    refine go_asg ?_
    refine lc_empties hW3 (by omega) (by rfl) fun G as H3 nG nas nGas s4 hG lots => ?_
    have s34 := s3.same s4
    have nGD : G ≠ D := fun e => by
      rw [e, upd_same] at nG
      cases nG
    have nDas : D ∉ as := fun h => by
      have := nas D h
      rw [upd_same] at this
      cases this
    have nWas : W ∉ as := fun h => by
      have := nas W h
      rw [hW3] at this
      cases this
    have nasH : ∀ a ∈ as, H a = none := fun a h => s3.free (nas a h)
    have alen : as.length = ws.length := by rw [lots.len, List.length_map]
    refine ⟨_, rfl, W, rfl, ⟨_, SqL.of (s4 _ _ hW3)⟩, for_list (K := K) (a := W) (xs := ws.map V.str) (fun i σ H' => ∃ (prs : List (Str × Int)) (gs : List (List Str)) (y4 y5 : Option V), σ = [some (.ref b), some (.ref W), some (.ref D), some (.ref G), y4, y5, none, none, none] ∧ prs.map (·.1) = ws.take i ∧ (∀ r ∈ prs, Wd r.1 ∧ 0 ≤ r.2 ∧ r.2 ≤ 2) ∧ Bx b l H H' ∧ H' W = some (.lst (ws.map V.str)) ∧ PRows H' D prs
        ∧ H' G = some (.lst (as.map V.ref)) ∧ Lots H' as gs ∧ (∀ g ∈ gs, g.Nodup ∧ (∀ y ∈ g, y ∈ ws.take i)) ∧ (1 ≤ i → ∃ g ∈ gs, g ≠ []))
      ⟨[], _, none, none, rfl, rfl, (fun r hr => by cases hr), s34, s4 _ _ hW3, ⟨[], s4 _ _ upd_same, .nil⟩, hG, lots, (fun g hg => by
          obtain ⟨_, _, rfl⟩ := List.mem_map.mp hg
          exact ⟨.nil, by simp⟩), fun h => by omega⟩ (fun i σ H' _ ⟨_, _, _, _, _, _, _, _, h, _⟩ => SqL.of h) ?_ ?_⟩
    · rintro i x σ H' hi ⟨prs, gs, y4, y5, rfl, hp, hw, sm, hW', hP, hG', lt, gsub, gone⟩
      obtain ⟨z, hz, rfl⟩ := map_get hi
      have hi2 : i < ws.length := by
        rcases Nat.lt_or_ge i ws.length with h | h
        · exact h
        · rw [List.getElem?_eq_none h] at hz
          cases hz
      have hlp : prs.length ≤ 20 := by
        have := congrArg List.length hp
        rw [List.length_map, List.length_take] at this
        omega
      refine ⟨_, rfl, .inl ⟨rfl, _, SqL.of hP.choose_spec.1⟩, _, rfl, _, rfl, b, l, 3, rfl, by decide, by decide, sm.b1, fun n2 H4 b0 b1 s5 => ?_⟩
      refine ⟨by show 2 ≤ sizeLine; decide, fun t nt => ?_⟩
      have s6 := s5.new (o := .tup [.str z, .int n2]) nt
      obtain ⟨ts2, hts2, pts2⟩ := hP.bx s6
      refine ⟨D, _, _, rfl, rfl, hts2, ?_, ?_⟩
      · rw [List.length_map, Paired.len pts2]
        exact small1000 (by omega)
      -- its group
      have hW6 : (upd (upd H4 t (.tup [.str z, .int n2])) D (.lst (ts2.map V.ref ++ [V.ref t]))) W = some (.lst (ws.map V.str)) := by rw [upd_ne nWD]; exact s6.strs hW'
      have hG6 : (upd (upd H4 t (.tup [.str z, .int n2])) D (.lst (ts2.map V.ref ++ [V.ref t]))) G = some (.lst (as.map V.ref)) := by rw [upd_ne nGD]; exact s6.refs hG'
      have lt6 : Lots (upd (upd H4 t (.tup [.str z, .int n2])) D (.lst (ts2.map V.ref ++ [V.ref t]))) as gs := (lt.bx s6).other nDas
      have sm6 := (sm.trans s6).mut (o := .lst (ts2.map V.ref ++ [V.ref t])) nDH
      have hP6 : PRows (upd (upd H4 t (.tup [.str z, .int n2])) D (.lst (ts2.map V.ref ++ [V.ref t]))) D (prs ++ [(z, n2)]) := PRows.snoc (r := (z, n2)) hts2 pts2 upd_same
      refine ⟨_, rfl, _, rfl, _, rfl, W, _, rfl, .inl (SqL.of hW6), b, l, _, rfl, by rw [List.length_map]; omega, by rw [List.length_map]; exact Int.le_trans (show (ws.length : Int) ≤ 1000 by omega) (by decide), sm6.b1, fun m H7 c0 c1 s7 => ?_⟩
      rw [List.length_map] at c1
      obtain ⟨jj, rfl⟩ : ∃ j : Nat, m = j := ⟨m.toNat, by omega⟩
      have hjj : jj < as.length := by omega
      have hg : (as.map V.ref)[jj]? = some (.ref as[jj]) := by rw [List.getElem?_map, List.getElem?_eq_getElem hjj]; rfl
      refine ⟨G, _, _, _, rfl, rfl, SqL.of (s7.refs hG6), atI_nat hg, ?_⟩
      have lt7 := lt6.bx s7
      obtain ⟨g, hgs, hga⟩ := lt7.at_ jj _ (List.getElem?_eq_getElem hjj)
      have gm := List.mem_of_getElem? hgs
      have glen : g.length ≤ 100 := by
        obtain ⟨g1, g2⟩ := gsub g gm
        have := List.Nodup.length_le_of_subset g1 (fun y hy => List.mem_of_mem_take (g2 y hy))
        omega
      have hin := List.getElem_mem hjj
      have nDj : D ≠ as[jj] := fun e => nDas (by rw [e]; exact hin)
      have nGj : G ≠ as[jj] := fun e => nGas (by rw [e]; exact hin)
      have nWj : W ≠ as[jj] := fun e => nWas (by rw [e]; exact hin)
      have zt : z ∉ ws.take i := fun h => by
        obtain ⟨a, ha, hza⟩ := List.getElem_of_mem h
        rw [List.getElem_take] at hza
        rw [List.length_take] at ha
        rw [List.getElem?_eq_getElem hi2] at hz
        have := (List.getElem_inj wn).mp (hza.trans (Option.some.inj hz).symm)
        omega
      refine ⟨_, rfl, .inl ⟨rfl, _, SqL.of hga⟩, _, rfl, _, _, _, rfl, rfl, hga, by rw [List.length_map]; exact small1000 (by omega), ?_⟩
      refine ⟨prs ++ [(z, n2)], gs.set jj (g ++ [z]), _, _, rfl, by rw [List.map_append, hp, take_more hz]; rfl, fun r hr5 => ?_, (sm6.trans s7).mut (nasH _ hin), by rw [upd_ne nWj]; exact s7.strs hW6, ?_, by rw [upd_ne nGj]; exact s7.refs hG6, ?_, fun g' hg' => ?_, fun _ => ⟨g ++ [z], ?_, by simp⟩⟩
      · rcases List.mem_append.mp hr5 with h | h
        · exact hw r h
        · rw [List.mem_singleton.mp h]
          exact ⟨ww z (List.mem_of_getElem? hz), b0, by omega⟩
      · obtain ⟨tp5, e1, e2⟩ := hP6.bx s7
        refine ⟨tp5, by rw [upd_ne nDj]; exact e1, Paired.imp2 (fun c r e => ?_) e2⟩
        rw [upd_ne (fun z => by rw [z, hga] at e; cases e)]
        exact e
      · have := lt7.put (g := g ++ [z]) (List.getElem?_eq_getElem hjj)
        rw [List.map_append] at this
        exact this
      · rw [take_more hz]
        rcases List.mem_or_eq_of_mem_set hg' with h | h
        · obtain ⟨g1, g2⟩ := gsub g' h
          exact ⟨g1, fun y hy => List.mem_append_left _ (g2 y hy)⟩
        · rw [h]
          obtain ⟨g1, g2⟩ := gsub g gm
          refine ⟨nodup_snoc g1 fun h => zt (g2 z h), fun y hy => ?_⟩
          rcases List.mem_append.mp hy with h | h
          · exact List.mem_append_left _ (g2 y h)
          · exact List.mem_append_right _ h
      · exact List.mem_of_getElem? (i := jj) (List.getElem?_set_self (by rw [← lt7.len]; exact hjj))
    · rintro σ H' ⟨prs, gs, y4, y5, rfl, hp, hw, sm, hW', hP, hG', lt, gsub, gone⟩
      rw [List.length_map, List.take_length] at hp
      rw [List.length_map] at gone
      have gsub2 : ∀ g ∈ gs, g.Nodup ∧ (∀ y ∈ g, y ∈ ws) := fun g hg => by
        obtain ⟨g1, g2⟩ := gsub g hg
        exact ⟨g1, fun y hy => List.mem_of_mem_take (g2 y hy)⟩
      obtain ⟨g0, hg0, hg0n⟩ := gone (by omega)
      -- the names
      refine ⟨_, rfl, b, l, 10, rfl, by decide, sm.b1, fun W2 ws2 H5 wl2 wn2 ww2 nW2 s6 hW2 => ?_⟩
      refine ⟨Nat.zero_le _, fun D2 nD2 => ?_⟩
      have s7 := (sm.trans s6).new (o := .lst []) nD2
      have nD2H := (sm.trans s6).free nD2
      have u6 := same_upd (o := .lst []) nD2
      have hW7 := u6 _ _ (s6.strs hW')
      have hG7 := u6 _ _ (s6.refs hG')
      have hW27 := u6 _ _ hW2
      have hP7 := (hP.bx s6).keep u6
      have lt7 := (lt.bx s6).keep u6
      have nWD2 : W ≠ D2 := ne_of_none (s6.strs hW') nD2
      have nW2D2 : W2 ≠ D2 := ne_of_none hW2 nD2
      have nGD2 : G ≠ D2 := ne_of_none (s6.refs hG') nD2
      have nDD2 : D ≠ D2 := ne_of_none (hP.bx s6).choose_spec.1 nD2
      have nas2 : D2 ∉ as := fun h => by
        obtain ⟨i, hi, hai⟩ := List.getElem_of_mem h
        obtain ⟨g, _, hg⟩ := (lt.bx s6).at_ i _ (List.getElem?_eq_getElem hi)
        rw [hai, nD2] at hg
        cases hg
      refine ⟨_, rfl, G, rfl, ⟨_, SqL.of hG7⟩, for_list (K := K) (a := G) (xs := as.map V.ref) (fun i σ H' => ∃ (srs : List SRow) (y4 y5 y8 : Option V), σ = [some (.ref b), some (.ref W), some (.ref D), some (.ref G), y4, y5, some (.ref W2), some (.ref D2), y8] ∧ srs.map (·.1) = ws2.take srs.length ∧ srs.length ≤ 2 * i ∧ (∀ r ∈ srs, RowG ws r) ∧ Bx b l H H' ∧ H' W = some (.lst (ws.map V.str)) ∧ H' W2 = some (.lst (ws2.map V.str)) ∧ PRows H' D prs ∧ SRows H' D2 srs
          ∧ H' G = some (.lst (as.map V.ref)) ∧ Lots H' as gs ∧ ((∃ g ∈ gs.take i, g ≠ []) → 1 ≤ srs.length))
        ⟨[], _, _, none, rfl, rfl, by simp, (fun r hr => by cases hr), s7, hW7, hW27, hP7, ⟨[], upd_same, .nil⟩, hG7, lt7, fun ⟨g, h, _⟩ => by simp at h⟩ (fun i σ H' _ ⟨_, _, _, _, _, _, _, _, _, _, _, _, _, h, _⟩ => SqL.of h) ?_ ?_⟩
      · rintro i x σ G1 hi ⟨srs, y4, y5, y8, rfl, hs, hsl, hsw, sg, gW, gW2, gP, gS, gG, lt8, gone8⟩
        obtain ⟨a, ha, rfl⟩ := map_get hi
        obtain ⟨g, hgs, hga⟩ := lt8.at_ i a ha
        have hi2 : i < as.length := by
          rcases Nat.lt_or_ge i as.length with h | h
          · exact h
          · rw [List.getElem?_eq_none h] at ha
            cases ha
        have gm := List.mem_of_getElem? hgs
        obtain ⟨gn, gsb⟩ := gsub2 g gm
        refine ⟨_, rfl, Nat.zero_le _, fun p np => ?_⟩
        have u9 := same_upd (o := .lst []) np
        have shp : SeqAt.shaped (dStrs g) = true := by
          have h := nb_strs (l := g) fun y hy => (ww y (gsb y hy)).asc
          exact shaped_of h (by simp only [PyData.depth]; have := depth_strs g; omega)
        refine ⟨_, _, .lst (SqL.of (u9 _ _ hga)) (dpall_strs g), .lst (SqL.of upd_same) .nil, shp, rfl, _, rfl, ?_⟩
        have sg9 := sg.same u9
        refine ite2 (fun h1 => ?_) (fun h1 => ?_)
        · have gne : g ≠ [] := fun e => by
            rw [e] at h1
            exact absurd h1 (by decide)
          refine ⟨_, rfl, b, l, 2, rfl, by decide, by decide, sg9.b1, fun n9 H9 c0 c1 s9 => ⟨_, _, rfl, rfl, _, rfl, by omega, by omega, ?_⟩⟩
          have n9b : (1 + n9).toNat ≤ 2 := by omega
          have n9c : 1 ≤ (1 + n9).toNat := by omega
          refine for_range (lo := 0) (n := (1 + n9).toNat) (fun t σ H' => ∃ (srs' : List SRow) (y4 y8 : Option V), σ = [some (.ref b), some (.ref W), some (.ref D), some (.ref G), y4, some (.ref a), some (.ref W2), some (.ref D2), y8] ∧ srs'.map (·.1) = ws2.take srs'.length ∧ srs'.length = srs.length + t ∧ (∀ r ∈ srs', RowG ws r) ∧ Bx b l H H' ∧ H' W = some (.lst (ws.map V.str)) ∧ H' W2 = some (.lst (ws2.map V.str)) ∧ PRows H' D prs ∧ SRows H' D2 srs'
            ∧ H' G = some (.lst (as.map V.ref)) ∧ Lots H' as gs)
            ⟨srs, _, _, rfl, hs, rfl, hsw, sg9.trans s9, s9.strs (u9 _ _ gW), s9.strs (u9 _ _ gW2), (gP.keep u9).bx s9, (gS.keep u9).bx s9, s9.refs (u9 _ _ gG), (lt8.keep u9).bx s9⟩ ?_ ?_
          · rintro t σ H' ht ⟨srs', y4, y8, rfl, ks, ksl, ksw, kg, kW, kW2, kP, kS, kG, kl⟩
            have l10 : srs'.length < ws2.length := by
              rw [alen] at hi2
              omega
            obtain ⟨us, hus, pus⟩ := id kS
            have hlen : (us.map V.ref).length = srs'.length := by rw [List.length_map]; exact Paired.len pus
            have hgn : (ws2.map V.str)[srs'.length]? = some (.str ws2[srs'.length]) := by rw [List.getElem?_map, List.getElem?_eq_getElem l10]; rfl
            obtain ⟨g', hgs', hga'⟩ := kl.at_ i a ha
            have eg : g' = g := by
              rw [hgs] at hgs'
              exact (Option.some.inj hgs').symm
            subst eg
            -- the row
            refine ⟨_, rfl, .inl ⟨rfl, _, SqL.of hus⟩, _, rfl, _, rfl, D2, _, rfl, .inl (SqL.of hus), W2, _, _, _, rfl, rfl, SqL.of kW2, by rw [hlen]; exact atI_nat hgn, ?_⟩
            refine ⟨_, rfl, a, _, rfl, .inl (SqL.of hga'), fun p1 np1 => ?_⟩
            have u10 := same_upd (o := .lst (g'.map V.str)) np1
            have kg10 := kg.same u10
            refine ⟨_, rfl, _, rfl, b, l, W, ws, 0, rfl, kg10.b1, u10 _ _ kW, wne, wn, by omega, by omega, fun p2 t2 H11 d2 e2 l2 np2 s11 hp2 => ?_⟩
            refine ⟨by show 3 ≤ sizeLine; decide, fun tt ntt => ?_⟩
            have s12' := (kg.b1.bx.same u10).trans s11
            have s13 := s12'.new (o := .tup [.str ws2[srs'.length], .ref p1, .ref p2]) ntt
            obtain ⟨us3, hus3, pus3⟩ := kS.bx s13
            have q1D : p1 ≠ D2 := Ne.symm (ne_of_none hus np1)
            have q2D : p2 ≠ D2 := fun e => by
              have := u10 _ _ hus
              rw [e, this] at np2
              cases np2
            refine ⟨D2, _, _, rfl, rfl, hus3, ?_, ?_⟩
            · rw [List.length_map, Paired.len pus3]
              exact small1000 (by omega)
            · refine ⟨srs' ++ [(ws2[srs'.length], g', t2)], _, _, rfl, ?_, by rw [List.length_append]; show _ + 1 = _; omega, fun r hr5 => ?_, (kg.trans s13).mut nD2H, by rw [upd_ne nWD2]; exact s13.strs kW, by rw [upd_ne nW2D2]; exact s13.strs kW2, ?_, SRows.snoc hus3 pus3 ⟨p1, p2, upd_same, same_upd ntt _ _ (s11.strs upd_same), same_upd ntt _ _ hp2, q1D, q2D⟩, by rw [upd_ne nGD2]; exact s13.refs kG, (kl.bx s13).other nas2⟩
              · rw [List.map_append, List.length_append, ks]
                show _ = ws2.take (srs'.length + 1)
                rw [take_more (List.getElem?_eq_getElem l10)]
                rfl
              · rcases List.mem_append.mp hr5 with h | h
                · exact ksw r h
                · rw [List.mem_singleton.mp h]
                  exact ⟨ww2 _ (List.getElem_mem l10), gne, gn, gsb, d2, e2⟩
              · obtain ⟨tp5, e1, e2⟩ := kP.bx s13
                refine ⟨tp5, by rw [upd_ne nDD2]; exact e1, Paired.imp2 (fun c r e => ?_) e2⟩
                rw [upd_ne (fun z => by rw [z, hus3] at e; cases e)]
                exact e
          · rintro σ H' ⟨srs', y4, y8, rfl, ks, ksl, ksw, kg, kW, kW2, kP, kS, kG, kl⟩
            exact ⟨srs', _, _, _, rfl, ks, by omega, ksw, kg, kW, kW2, kP, kS, kG, kl, fun _ => by omega⟩
        · have ge : g = [] := by
            cases e : g with
            | nil => rfl
            | cons x l => rw [e] at h1; exact absurd rfl h1
          refine ⟨srs, _, _, _, rfl, hs, by omega, hsw, sg9, u9 _ _ gW, u9 _ _ gW2, gP.keep u9, gS.keep u9, u9 _ _ gG, lt8.keep u9, fun ⟨g', h1, h2⟩ => gone8 ?_⟩
          rw [take_more hgs] at h1
          rcases List.mem_append.mp h1 with h | h
          · exact ⟨g', h, h2⟩
          · rw [List.mem_singleton.mp h] at h2
            exact absurd ge h2
      · rintro σ G1 ⟨srs, y4, y5, y8, rfl, hs, hsl, hsw, sg, gW, gW2, gP, gS, gG, lt8, gone8⟩
        rw [List.length_map] at hsl gone8
        refine ⟨_, rfl, _, rfl, by show 2 ≤ sizeLine; decide, fun p np => ?_⟩
        have lp : prs.length = ws.length := by rw [← hp, List.length_map]
        exact q p D D2 prs srs _ (sg.new np) upd_same (gP.keep (same_upd np)) (gS.keep (same_upd np)) ⟨hw, by rw [hp]; exact wn, fun r hr5 => by rw [hp]; exact hsw r hr5, by rw [hs]; exact (List.take_sublist _ _).nodup wn2, by omega, by omega, gone8 ⟨g0, by rw [List.take_of_length_le (by rw [← lt8.len]; omega)]; exact hg0, hg0n⟩, by omega⟩
end

/-! ## g13s -/
section
variable {P : Program} {w : World} {K : PySem.W.Frag} {mg : Str → Option Value} {base : Heap}
/-- the rows are small -/
def SmallR (prs : List (Str × Int)) (srs : List SRow) : Prop := prs.length ≤ 100 ∧ srs.length ≤ 100 ∧ ∀ r ∈ srs, r.2.1.length ≤ 100 ∧ r.2.2.length ≤ 100
theorem PRows.cat {H H' : Hp} {a p : Addr} {ts us : List Addr} {prs qrs : List (Str × Int)} (pt : Paired (fun t (r : Str × Int) => H t = some (.tup [.str r.1, .int r.2])) ts prs) (pu : Paired (fun t (r : Str × Int) => H t = some (.tup [.str r.1, .int r.2])) us qrs)
    (sm : Same H H') (hp : H' p = some (.lst (ts.map V.ref ++ us.map V.ref))) : PRows H' p (prs ++ qrs) :=
  ⟨ts ++ us, by rw [hp, List.map_append], Paired.app (Paired.same pt sm) (Paired.same pu sm)⟩
theorem SRows.cat {H H' : Hp} {a c p : Addr} {ts us : List Addr} {srs qrs : List SRow} (pt : Paired (SRowIn H a) ts srs) (pu : Paired (SRowIn H c) us qrs)
    (sm : Same H H') (np : H p = none) (hp : H' p = some (.lst (ts.map V.ref ++ us.map V.ref))) : SRows H' p (srs ++ qrs) :=
  ⟨ts ++ us, by rw [hp, List.map_append], Paired.app (Paired.imp2 (fun _ _ h => h.move sm np) pt) (Paired.imp2 (fun _ _ h => h.move sm np) pu)⟩
def stretchS (pl w n : Str) (srs : List SRow) : List SRow := srs.map (fun r => (r.1, r.2.1.map (fun y => if y = pl then w else y), r.2.2)) ++ [(n, [pl], [w])]
abbrev s__law_stretched : Stmt := topS 35
theorem sc__law_stretched : FnScope ["_law_places", "_law_steps", "_law_place", "_law_word_here", "_law_name", "_law_turned", "_law_old", "_law_taken", "_law_given", "_law_other"] ["_law_places", "_law_steps", "_law_place", "_law_word_here", "_law_name"] (defScope s__law_stretched) := ⟨rfl, rfl, rfl, by decide +kernel, rfl, by decide +kernel, by decide +kernel⟩
def spStretched : Sp := fun vs H Q _ => ∃ (a c : Addr) (prs : List (Str × Int)) (srs : List SRow) (pl z n : Str), vs = [.ref a, .ref c, .str pl, .str z, .str n] ∧ PRows H a prs ∧ SRows H c srs ∧ SmallR prs srs ∧
  ∀ (p ap as' : Addr) (H' : Hp), Same H H' → H' p = some (.lst [.ref ap, .ref as']) → PRows H' ap (prs ++ [(z, 0)]) → SRows H' as' (stretchS pl z n srs) → Q (.ref p) H'
theorem ok_stretched {k : Nat} (B : Bl mg) (F : Src K mg "_law_stretched" s__law_stretched ["_law_places", "_law_steps", "_law_place", "_law_word_here", "_law_name"]) : Def P w K mg base CX0 (k + 1) "_law_stretched" ["_law_places", "_law_steps", "_law_place", "_law_word_here", "_law_name"] spStretched := by
  refine F.ok sc__law_stretched (fun vs H Q E h => ?_) (fun f cdv A outer s H vs Q E hr h => ?_)
  · obtain ⟨a, c, prs, srs, pl, z, n, rfl, _⟩ := h
    rfl
  · obtain ⟨a, c, prs, srs, pl, z, n, rfl, hP, hS, ⟨lP, lS, lR⟩, q⟩ := h
    refine ⟨_, (pss_cons (ps_asg (pe_lst pa_nil) (pg_name (i := 5) sc__law_stretched.nd rfl (Or.inl rfl)))
 (pss_cons (ps_for PassesOwn.never rfl (kpi_list (K := K) (pv 1)) (pg_tup rfl (pgs_cons (pg_name (i := 6) sc__law_stretched.nd rfl (Or.inl rfl)) (pgs_cons (pg_name (i := 7) sc__law_stretched.nd rfl (Or.inl rfl)) (pgs_cons (pg_name (i := 8) sc__law_stretched.nd rfl (Or.inl rfl)) pgs_nil)))) (pss_one (ps_expr (pe_bm PySem.F.plainAttrs_list PySem.F.slot_list_append PySem.F.type_list_append mt_append (pv 5) (pa_cons (pe_tup (pa_cons (pv 6) (pa_cons (pe_lc (own := [("_law_other", 9)]) (g := gName 9) (by rfl) sc__law_stretched.nd (kpi_list (K := K) (pv 7)) (blkOk_by (N := ["_law_places", "_law_steps", "_law_place", "_law_word_here", "_law_name", "_law_turned", "_law_old", "_law_taken", "_law_given", "_law_other"]) (sc := defScope s__law_stretched) (by decide +kernel)) (fun _ _ _ _ _ => (pg_name (i := 9) sc__law_stretched.nd rfl (Or.inl rfl))) (fun _ _ _ _ _ => pts_nil) (fun _ _ _ _ _ => (pe_ifExp (pt_cmpR op_eq (pv 9) (pv 2) (nomark _)) (pv 3) (pv 9)))) (pa_cons (pv 8) pa_nil)))) pa_nil)))))
 (pss_one (ps_ret (pe_lst (pa_cons (pe_op op_cat (pv 0) (pe_lst (pa_cons (pe_tup (pa_cons (pv 3) (pa_cons pe_int pa_nil))) pa_nil))) (pa_cons (pe_op op_cat (pv 5) (pe_lst (pa_cons (pe_tup (pa_cons (pv 4) (pa_cons (pe_lst (pa_cons (pv 2) pa_nil)) (pa_cons (pe_lst (pa_cons (pv 3) pa_nil)) pa_nil)))) pa_nil))) pa_nil))))))), ?_⟩
    obtain ⟨ts, hts, pts⟩ := id hP
    obtain ⟨us, hus, pus⟩ := id hS
    refine ⟨Nat.zero_le _, fun D nD => ?_⟩
    have s0 := same_upd (o := .lst []) nD
    refine ⟨_, rfl, c, rfl, ⟨_, SqL.of (s0 _ _ hus)⟩, for_list (K := K) (a := c) (xs := us.map V.ref) (fun i σ H' => ∃ (y6 y7 y8 : Option V), σ = [some (.ref a), some (.ref c), some (.str pl), some (.str z), some (.str n), some (.ref D), y6, y7, y8, none] ∧ Same H H' ∧ SRows H' D ((srs.take i).map (fun r => (r.1, r.2.1.map (fun y => if y = pl then z else y), r.2.2))))
      ⟨none, none, none, rfl, s0, ⟨[], upd_same, .nil⟩⟩ (fun i σ H' _ ⟨_, _, _, _, sm, _⟩ => SqL.of (sm _ _ hus)) ?_ ?_⟩
    · rintro i x σ H' hi ⟨y6, y7, y8, rfl, sm, hT⟩
      obtain ⟨t, ht, rfl⟩ := map_get hi
      obtain ⟨r, hr1, b1, c1, e1, e2, e3, n1, n2⟩ := Paired.get pus ht
      have hrl := lR r (List.mem_of_getElem? hr1)
      refine ⟨t, _, rfl, SqT.of (sm _ _ e1), rfl, _, _, rfl, _, _, rfl, _, _, rfl, rfl, ?_⟩
      obtain ⟨vs1, hv1, pv1⟩ := id hT
      refine ⟨_, rfl, .inl ⟨rfl, _, SqL.of hv1⟩, _, rfl, ?_⟩
      refine lc_gen (enc := V.str) (out := fun y => V.str (if y = pl then z else y)) (ws := r.2.1) (p := fun _ => true) (by omega) (fun F h => ⟨_, rfl, h b1 H' (Same.refl H') (sm _ _ e2)⟩) (fun y _ H2 Qb _ h => h H2 (Same.refl H2)) (fun y _ _ H2 Q' _ h => ?_) fun D1 H3 nD1 s3 hD1 => ?_
      · refine ⟨_, rfl, _, rfl, rfl, _, rfl, ?_⟩
        refine ite2 (fun h1 => ?_) (fun h1 => ?_)
        · have h1 : y = pl := by simpa using h1
          have := h H2 (Same.refl H2)
          rw [if_pos h1] at this
          exact ⟨_, rfl, this⟩
        · have h1 : y ≠ pl := by simpa using h1
          have := h H2 (Same.refl H2)
          rw [if_neg h1] at this
          exact ⟨_, rfl, this⟩
      · rw [List.filter_eq_self.mpr (fun _ _ => rfl)] at hD1
        have hD1' : H3 D1 = some (.lst ((r.2.1.map (fun y => if y = pl then z else y)).map V.str)) := by
          rw [hD1, List.map_map]
          rfl
        refine ⟨_, rfl, by show 3 ≤ sizeLine; decide, fun t2 nt2 => ?_⟩
        have s4 := s3.trans (same_upd (o := .tup [.str r.1, .ref D1, .ref c1]) nt2)
        obtain ⟨vs2, hv2, pv2⟩ := hT.keep s4
        have nD1D : D1 ≠ D := fun e => by
          rw [e, hv1] at nD1
          cases nD1
        have nc1D : c1 ≠ D := ne_of_none e3 nD
        have hrow : SRowIn (upd H3 t2 (.tup [.str r.1, .ref D1, .ref c1])) D t2 (r.1, r.2.1.map (fun y => if y = pl then z else y), r.2.2) := ⟨D1, c1, upd_same, same_upd nt2 _ _ hD1', s4 _ _ (sm _ _ e3), nD1D, nc1D⟩
        refine ⟨D, _, _, rfl, rfl, hv2, ?_, _, _, _, rfl, (sm.trans s4).mut nD, ?_⟩
        · rw [List.length_map, Paired.len pv2, List.length_map, List.length_take]
          exact small1000 (by omega)
        · rw [take_more hr1, List.map_append]
          exact SRows.snoc hv2 pv2 hrow
    · rintro σ H' ⟨y6, y7, y8, rfl, sm, hT⟩
      rw [List.length_map, Paired.len pus, List.take_length] at hT
      -- the places
      refine ⟨_, rfl, _, rfl, by show 2 ≤ sizeLine; decide, fun t1 nt1 => ?_⟩
      have s1 := same_upd (o := .tup [.str z, .int 0]) nt1
      refine ⟨by show 1 ≤ sizeLine; decide, fun l1 nl1 => ?_⟩
      have s2 := s1.trans (same_upd (o := .lst [.ref t1]) nl1)
      have lts : ts.length = prs.length := Paired.len pts
      refine ⟨a, l1, _, _, rfl, rfl, s2 _ _ (sm _ _ hts), upd_same, ?_, fun p1 np1 => ?_⟩
      · rw [List.length_map]
        exact Nat.le_trans (show ts.length + 1 ≤ 1000 by omega) (by decide)
      have s3 := s2.trans (same_upd (o := .lst (ts.map V.ref ++ [.ref t1])) np1)
      have sm3 := sm.trans s3
      have hP3 : PRows (upd (upd (upd H' t1 (.tup [.str z, .int 0])) l1 (.lst [.ref t1])) p1 (.lst (ts.map V.ref ++ [.ref t1]))) p1 (prs ++ [(z, 0)]) :=
        PRows.cat (a := a) (us := [t1]) (qrs := [(z, 0)]) (Paired.same pts (sm.trans s2)) (.cons (same_upd nl1 _ _ upd_same) .nil) (same_upd np1) upd_same
      -- the steps
      refine ⟨_, rfl, _, rfl, _, rfl, by show 1 ≤ sizeLine; decide, fun l2 nl2 => ?_⟩
      have s4 := s3.trans (same_upd (o := .lst [.str pl]) nl2)
      refine ⟨_, rfl, by show 1 ≤ sizeLine; decide, fun l3 nl3 => ?_⟩
      have s5 := s4.trans (same_upd (o := .lst [.str z]) nl3)
      refine ⟨by show 3 ≤ sizeLine; decide, fun t2 nt2 => ?_⟩
      have s6 := s5.trans (same_upd (o := .tup [.str n, .ref l2, .ref l3]) nt2)
      refine ⟨by show 1 ≤ sizeLine; decide, fun l4 nl4 => ?_⟩
      have s7 := s6.trans (same_upd (o := .lst [.ref t2]) nl4)
      obtain ⟨vs2, hv2, pv2⟩ := hT.keep s7
      have lvs : vs2.length = srs.length := by rw [Paired.len pv2, List.length_map]
      refine ⟨D, l4, _, _, rfl, rfl, hv2, upd_same, ?_, fun p2 np2 => ?_⟩
      · rw [List.length_map]
        exact Nat.le_trans (show vs2.length + 1 ≤ 1000 by omega) (by decide)
      have u8 := same_upd (o := .lst (vs2.map V.ref ++ [.ref t2])) np2
      have s8 := s7.trans u8
      refine ⟨by show 2 ≤ sizeLine; decide, fun p3 np3 => ?_⟩
      have u9 := same_upd (o := .lst [.ref p1, .ref p2]) np3
      refine q p3 p1 p2 _ ((sm.trans s8).trans u9) upd_same ?_ ?_
      · exact (hP3.keep ((((same_upd nl2).trans (same_upd nl3)).trans (same_upd nt2)).trans (same_upd nl4))).keep (u8.trans u9)
      · refine SRows.keep (SRows.cat (a := D) (c := l4) (us := [t2]) (qrs := [(n, [pl], [z])]) pv2 (.cons ?_ .nil) u8 np2 upd_same) u9
        have k2 := (same_upd (o := .tup [.str n, .ref l2, .ref l3]) nt2).trans (same_upd (o := .lst [.ref t2]) nl4)
        have k3 := (same_upd (o := .lst [.str z]) nl3).trans k2
        have m2 : l2 ≠ l4 := ne_of_none (((same_upd (o := .lst [.str z]) nl3).trans (same_upd (o := .tup [.str n, .ref l2, .ref l3]) nt2)) l2 _ upd_same) nl4
        have m3 : l3 ≠ l4 := ne_of_none ((same_upd (o := .tup [.str n, .ref l2, .ref l3]) nt2) l3 _ upd_same) nl4
        exact ⟨l2, l3, same_upd nl4 _ _ upd_same, k3 _ _ upd_same, k2 _ _ upd_same, m2, m3⟩
end

/-! ## g13t -/
section
variable {P : Program} {w : World} {K : PySem.W.Frag} {mg : Str → Option Value} {base : Heap}
theorem zip_refs {β : Type} {R : Addr → β → Prop} : ∀ {ts : List Addr} {rs : List β}, Paired R ts rs → (ts.zip rs).map (fun x => V.ref x.1) = ts.map V.ref ∧ (∀ x ∈ ts.zip rs, R x.1 x.2) ∧ (ts.zip rs).map (·.2) = rs
  | _, _, .nil => ⟨rfl, (fun x h => by cases h), rfl⟩
  | _, _, .cons h r => by
    obtain ⟨h1, h2, h3⟩ := zip_refs r
    refine ⟨by rw [List.zip_cons_cons, List.map_cons, h1]; rfl, fun x hx => ?_, by rw [List.zip_cons_cons, List.map_cons, h3]⟩
    rcases List.mem_cons.mp hx with e | hx
    · rw [e]
      exact h
    · exact h2 x hx
def twinS (pl z : Str) (srs : List SRow) : List SRow := srs.map fun r => (r.1, r.2.1 ++ (if pl ∈ r.2.1 then [z] else []), r.2.2 ++ (if pl ∈ r.2.2 then [z] else []))
/-- [z] if pl in ws else [] -/
theorem if_more {σ : L2.St} {H : Hp} {i j k : Nat} {pl z : Str} {b : Addr} {ws : List Str} {Q : VK} (h1 : σ[i]? = some (some (.str pl))) (h2 : σ[j]? = some (some (.ref b))) (h3 : σ[k]? = some (some (.str z))) (hb : H b = some (.lst (ws.map V.str)))
    (q : ∀ m, H m = none → Q (.ref m) (upd H m (.lst ((if pl ∈ ws then [z] else []).map V.str)))) : tIf (tTest (tOp (rIn K false) (tVar i) (tVar j))) (tLst (tCons (tVar k) tNil)) (tLst tNil) σ H Q := by
  refine ⟨_, h1, _, h2, b, _, rfl, .inl (SqL.of hb), rfl, flat_strs _, _, rfl, ?_⟩
  rw [inV_strs]
  refine ite2 (fun h => ?_) (fun h => ?_)
  · have h : pl ∈ ws := by simpa using h
    rw [if_pos h] at q
    exact ⟨_, h3, by show 1 ≤ sizeLine; decide, q⟩
  · have h : pl ∉ ws := by simpa using h
    rw [if_neg h] at q
    exact ⟨Nat.zero_le _, q⟩
theorem ite_len {c : Prop} [Decidable c] (z : Str) : (if c then [z] else []).length ≤ 1 := by
  split <;> simp
abbrev s__law_twinned : Stmt := topS 36
theorem sc__law_twinned : FnScope ["_law_places", "_law_steps", "_law_place", "_law_word_here", "_law_turned", "_law_old", "_law_taken", "_law_given", "_law_more", "_law_number", "_law_row"] ["_law_places", "_law_steps", "_law_place", "_law_word_here"] (defScope s__law_twinned) := ⟨rfl, rfl, rfl, by decide +kernel, rfl, by decide +kernel, by decide +kernel⟩
def spTwinned : Sp := fun vs H Q _ => ∃ (a c : Addr) (prs : List (Str × Int)) (srs : List SRow) (pl z : Str), vs = [.ref a, .ref c, .str pl, .str z] ∧ PRows H a prs ∧ SRows H c srs ∧ SmallR prs srs ∧ pl ∈ prs.map (·.1) ∧
  ∀ (p ap as' : Addr) (num : Int) (H' : Hp), (pl, num) ∈ prs → Same H H' → H' p = some (.lst [.ref ap, .ref as']) → PRows H' ap (prs ++ [(z, num)]) → SRows H' as' (twinS pl z srs) → Q (.ref p) H'
theorem ok_twinned {k : Nat} (B : Bl mg) (F : Src K mg "_law_twinned" s__law_twinned ["_law_places", "_law_steps", "_law_place", "_law_word_here"]) : Def P w K mg base CX0 (k + 1) "_law_twinned" ["_law_places", "_law_steps", "_law_place", "_law_word_here"] spTwinned := by
  refine F.ok sc__law_twinned (fun vs H Q E h => ?_) (fun f cdv A outer s H vs Q E hr h => ?_)
  · obtain ⟨a, c, prs, srs, pl, z, rfl, _⟩ := h
    rfl
  · obtain ⟨a, c, prs, srs, pl, z, rfl, hP, hS, ⟨lP, lS, lR⟩, hpl, q⟩ := h
    refine ⟨_, (pss_cons (ps_asg (pe_lst pa_nil) (pg_name (i := 4) sc__law_twinned.nd rfl (Or.inl rfl)))
 (pss_cons (ps_for PassesOwn.never rfl (kpi_list (K := K) (pv 1)) (pg_tup rfl (pgs_cons (pg_name (i := 5) sc__law_twinned.nd rfl (Or.inl rfl)) (pgs_cons (pg_name (i := 6) sc__law_twinned.nd rfl (Or.inl rfl)) (pgs_cons (pg_name (i := 7) sc__law_twinned.nd rfl (Or.inl rfl)) pgs_nil)))) (pss_cons (ps_asg (pe_ifExp (pt_cmpR (kop_in (K := K)) (pv 2) (pv 6) rfl) (pe_lst (pa_cons (pv 3) pa_nil)) (pe_lst pa_nil)) (pg_name (i := 8) sc__law_twinned.nd rfl (Or.inl rfl)))
 (pss_one (ps_expr (pe_bm PySem.F.plainAttrs_list PySem.F.slot_list_append PySem.F.type_list_append mt_append (pv 4) (pa_cons (pe_tup (pa_cons (pv 5) (pa_cons (pe_op op_cat (pv 6) (pv 8)) (pa_cons (pe_op op_cat (pv 7) (pe_ifExp (pt_cmpR (kop_in (K := K)) (pv 2) (pv 7) rfl) (pe_lst (pa_cons (pv 3) pa_nil)) (pe_lst pa_nil))) pa_nil)))) pa_nil))))))
 (pss_cons (ps_asg (pe_ix (kix_list (K := K)) (pe_lc (own := [("_law_row", 10)]) (g := gName 10) (by rfl) sc__law_twinned.nd (kpi_list (K := K) (pv 0)) (blkOk_by (N := ["_law_places", "_law_steps", "_law_place", "_law_word_here", "_law_turned", "_law_old", "_law_taken", "_law_given", "_law_more", "_law_number", "_law_row"]) (sc := defScope s__law_twinned) (by decide +kernel)) (fun _ _ _ _ _ => (pg_name (i := 10) sc__law_twinned.nd rfl (Or.inl rfl))) (fun _ _ _ _ _ => pts_one (pt_cmpR op_eq (pe_ix (kix_tup (K := K)) (pv 10) pe_int (fun _ _ => rfl)) (pv 2) (nomark _))) (fun _ _ _ _ _ => (pe_ix (kix_tup (K := K)) (pv 10) pe_int (fun _ _ => rfl)))) pe_int (fun _ _ => rfl)) (pg_name (i := 9) sc__law_twinned.nd rfl (Or.inl rfl)))
 (pss_one (ps_ret (pe_lst (pa_cons (pe_op op_cat (pv 0) (pe_lst (pa_cons (pe_tup (pa_cons (pv 3) (pa_cons (pv 9) pa_nil))) pa_nil))) (pa_cons (pv 4) pa_nil)))))))), ?_⟩
    obtain ⟨ts, hts, pts⟩ := id hP
    obtain ⟨us, hus, pus⟩ := id hS
    refine ⟨Nat.zero_le _, fun D nD => ?_⟩
    have s0 := same_upd (o := .lst []) nD
    refine ⟨_, rfl, c, rfl, ⟨_, SqL.of (s0 _ _ hus)⟩, for_list (K := K) (a := c) (xs := us.map V.ref) (fun i σ H' => ∃ (y5 y6 y7 y8 : Option V), σ = [some (.ref a), some (.ref c), some (.str pl), some (.str z), some (.ref D), y5, y6, y7, y8, none, none] ∧ Same H H' ∧ SRows H' D (twinS pl z (srs.take i)))
      ⟨none, none, none, none, rfl, s0, ⟨[], upd_same, .nil⟩⟩ (fun i σ H' _ ⟨_, _, _, _, _, sm, _⟩ => SqL.of (sm _ _ hus)) ?_ ?_⟩
    · rintro i x σ H' hi ⟨y5, y6, y7, y8, rfl, sm, hT⟩
      obtain ⟨t, ht, rfl⟩ := map_get hi
      obtain ⟨r, hr1, b1, c1, e1, e2, e3, n1, n2⟩ := Paired.get pus ht
      have hrl := lR r (List.mem_of_getElem? hr1)
      refine ⟨t, _, rfl, SqT.of (sm _ _ e1), rfl, _, _, rfl, _, _, rfl, _, _, rfl, rfl, ?_⟩
      obtain ⟨vs1, hv1, pv1⟩ := id hT
      -- more
      refine go_asg ?_
      refine if_more (pl := pl) (z := z) (by rfl) (by rfl) (by rfl) (sm _ _ e2) fun m nm => ?_
      have s2 := same_upd (o := .lst ((if pl ∈ r.2.1 then [z] else []).map V.str)) nm
      refine ⟨_, rfl, .inl ⟨rfl, _, SqL.of (s2 _ _ hv1)⟩, _, rfl, _, rfl, _, rfl, b1, m, _, _, rfl, rfl, s2 _ _ (sm _ _ e2), upd_same, ?_, fun p1 np1 => ?_⟩
      · rw [List.length_map, List.length_map]
        have := ite_len (c := pl ∈ r.2.1) z
        exact Nat.le_trans (show _ ≤ 1000 by omega) (by decide)
      have s3 := s2.trans (same_upd (o := .lst (r.2.1.map V.str ++ (if pl ∈ r.2.1 then [z] else []).map V.str)) np1)
      refine ⟨_, rfl, ?_⟩
      refine if_more (pl := pl) (z := z) (by rfl) (by rfl) (by rfl) (s3 _ _ (sm _ _ e3)) fun m2 nm2 => ?_
      have s4 := s3.trans (same_upd (o := .lst ((if pl ∈ r.2.2 then [z] else []).map V.str)) nm2)
      refine ⟨c1, m2, _, _, rfl, rfl, s4 _ _ (sm _ _ e3), upd_same, ?_, fun p2 np2 => ?_⟩
      · rw [List.length_map, List.length_map]
        have := ite_len (c := pl ∈ r.2.2) z
        exact Nat.le_trans (show _ ≤ 1000 by omega) (by decide)
      have u5 := same_upd (o := .lst (r.2.2.map V.str ++ (if pl ∈ r.2.2 then [z] else []).map V.str)) np2
      have s5 := s4.trans u5
      refine ⟨by show 3 ≤ sizeLine; decide, fun t2 nt2 => ?_⟩
      have u6 := same_upd (o := .tup [.str r.1, .ref p1, .ref p2]) nt2
      have s6 := s5.trans u6
      obtain ⟨vs2, hv2, pv2⟩ := hT.keep s6
      have hp1D : p1 ≠ D := Ne.symm (ne_of_none (s2 _ _ hv1) np1)
      have hp2D : p2 ≠ D := Ne.symm (ne_of_none (s4 _ _ hv1) np2)
      have k1 := ((same_upd (o := .lst ((if pl ∈ r.2.2 then [z] else []).map V.str)) nm2).trans u5).trans u6
      refine ⟨D, _, _, rfl, rfl, hv2, ?_, _, _, _, _, rfl, (sm.trans s6).mut nD, ?_⟩
      · rw [List.length_map, Paired.len pv2]
        unfold twinS
        rw [List.length_map, List.length_take]
        exact small1000 (by omega)
      · unfold twinS
        rw [take_more hr1, List.map_append]
        refine SRows.snoc hv2 pv2 ⟨p1, p2, upd_same, ?_, ?_, hp1D, hp2D⟩
        · rw [List.map_append]
          exact k1 _ _ upd_same
        · rw [List.map_append]
          exact u6 _ _ upd_same
    · rintro σ H' ⟨y5, y6, y7, y8, rfl, sm, hT⟩
      rw [List.length_map, Paired.len pus, List.take_length] at hT
      obtain ⟨zr1, zr2, zr3⟩ := zip_refs pts
      have lts : ts.length = prs.length := Paired.len pts
      -- the number
      dsimp only
      refine go_asg (go_op ?_)
      refine lc_gen (enc := fun x : Addr × Str × Int => V.ref x.1) (out := fun x => V.int x.2.2) (ws := ts.zip prs) (p := fun x => decide (x.2.1 = pl)) (by rw [List.length_zip]; omega) (fun F h => ⟨_, rfl, h a H' (Same.refl H') (by rw [zr1]; exact sm _ _ hts)⟩) (fun x hx H2 Qb s2 h => ?_) (fun x hx _ H2 Q' s2 h => ?_) fun D1 H3 nD1 s3 hD1 => ?_
      · exact ⟨_, rfl, x.1, _, _, _, rfl, rfl, SqT.of (s2 _ _ (sm _ _ (zr2 x hx))), atI_nat (j := 0) rfl, _, rfl, rfl, _, rfl, by
          show Qb (decide (V.str x.2.1 = V.str pl)) H2
          have e : decide (V.str x.2.1 = V.str pl) = decide (x.2.1 = pl) := by
            by_cases e : x.2.1 = pl
            · rw [e, decide_eq_true rfl, decide_eq_true rfl]
            · rw [decide_eq_false e, decide_eq_false (fun q => e (V.str.inj q))]
          rw [e]
          exact h H2 (Same.refl H2)⟩
      · exact ⟨_, rfl, x.1, _, _, _, rfl, rfl, SqT.of (s2 _ _ (sm _ _ (zr2 x hx))), atI_nat (j := 1) rfl, h H2 (Same.refl H2)⟩
      -- one is there
      obtain ⟨num, hn0, hnm⟩ : ∃ num, (((ts.zip prs).filter fun x => decide (x.2.1 = pl)).map fun x => V.int x.2.2)[0]? = some (.int num) ∧ (pl, num) ∈ prs := by
        obtain ⟨pr, hpr, hpr2⟩ := List.mem_map.mp hpl
        rw [← zr3] at hpr
        obtain ⟨x, hx, rfl⟩ := List.mem_map.mp hpr
        have hf : x ∈ (ts.zip prs).filter fun x => decide (x.2.1 = pl) := List.mem_filter.mpr ⟨hx, decide_eq_true hpr2⟩
        cases e : (ts.zip prs).filter fun x => decide (x.2.1 = pl) with
        | nil => rw [e] at hf; cases hf
        | cons y l =>
          have hy : y ∈ (ts.zip prs).filter fun x => decide (x.2.1 = pl) := by rw [e]; exact List.mem_cons_self ..
          obtain ⟨hy1, hy2⟩ := List.mem_filter.mp hy
          have hy2 : y.2.1 = pl := of_decide_eq_true hy2
          have hy3 : y.2 ∈ (ts.zip prs).map (·.2) := List.mem_map.mpr ⟨y, hy1, rfl⟩
          rw [zr3] at hy3
          refine ⟨y.2.2, rfl, ?_⟩
          rw [← hy2]
          exact hy3
      refine ⟨D1, _, _, _, rfl, rfl, SqL.of hD1, atI_nat (j := 0) hn0, ?_⟩
      refine ⟨_, rfl, _, rfl, _, rfl, by show 2 ≤ sizeLine; decide, fun t1 nt1 => ?_⟩
      have s4 := s3.trans (same_upd (o := .tup [.str z, .int num]) nt1)
      refine ⟨by show 1 ≤ sizeLine; decide, fun l1 nl1 => ?_⟩
      have s5 := s4.trans (same_upd (o := .lst [.ref t1]) nl1)
      refine ⟨a, l1, _, _, rfl, rfl, s5 _ _ (sm _ _ hts), upd_same, ?_, fun p1 np1 => ?_⟩
      · rw [List.length_map]
        exact Nat.le_trans (show ts.length + 1 ≤ 1000 by omega) (by decide)
      have u6 := same_upd (o := .lst (ts.map V.ref ++ [.ref t1])) np1
      refine ⟨_, rfl, by show 2 ≤ sizeLine; decide, fun p3 np3 => ?_⟩
      have u7 := same_upd (o := .lst [.ref p1, .ref D]) np3
      refine q p3 p1 D num _ hnm (((sm.trans s5).trans u6).trans u7) upd_same ?_ (hT.keep ((s5.trans u6).trans u7))
      exact (PRows.cat (a := a) (us := [t1]) (qrs := [(z, num)]) (Paired.same pts (sm.trans s5)) (.cons (same_upd nl1 _ _ upd_same) .nil) u6 upd_same).keep u7
/-! a row as plain data -/
def rowData (r : SRow) : PyData := .tuple [.str r.1, dStrs r.2.1, dStrs r.2.2]
theorem dp_row {H : Hp} {a t : Addr} {r : SRow} (h : SRowIn H a t r) : Dp K H (.ref t) (rowData r) := by
  obtain ⟨b, c, h1, h2, h3, _⟩ := h
  exact .tup (SqT.of h1) (.cons (.str _) (.cons (.lst (SqL.of h2) (dpall_strs _)) (.cons (.lst (SqL.of h3) (dpall_strs _)) .nil)))
def RowA (r : SRow) : Prop := Asc r.1 ∧ (∀ y ∈ r.2.1, Asc y) ∧ (∀ y ∈ r.2.2, Asc y)
theorem nb_row {r : SRow} (h : RowA r) : nb (rowData r) = true := by
  show (PyData.strOk r.1 && (nb (dStrs r.2.1) && (nb (dStrs r.2.2) && true))) = true
  have e1 : nb (dStrs r.2.1) = true := nb_strs h.2.1
  have e2 : nb (dStrs r.2.2) = true := nb_strs h.2.2
  rw [h.1.ok, e1, e2]
  rfl
theorem depth_row (r : SRow) : (rowData r).depth ≤ 5 := by
  have h1 := depth_strs r.2.1
  have h2 := depth_strs r.2.2
  unfold rowData dStrs
  simp only [PyData.depth, PyData.depthAll]
  omega
abbrev s__law_detoured : Stmt := topS 37
theorem sc__law_detoured : FnScope ["_law_places", "_law_steps", "_law_place", "_law_word_here", "_law_names", "_law_row"] ["_law_places", "_law_steps", "_law_place", "_law_word_here", "_law_names"] (defScope s__law_detoured) := ⟨rfl, rfl, rfl, by decide +kernel, rfl, by decide +kernel, by decide +kernel⟩
def detourS (pl z n1 n2 : Str) (srs : List SRow) : List SRow := srs ++ [(n1, [pl], [z]), (n2, [z], [pl])]
def spDetoured : Sp := fun vs H Q _ => ∃ (a c d : Addr) (prs : List (Str × Int)) (srs : List SRow) (pl z n1 n2 : Str) (ns : List Str), vs = [.ref a, .ref c, .str pl, .str z, .ref d] ∧ PRows H a prs ∧ SRows H c srs ∧ H d = some (.lst ((n1 :: n2 :: ns).map V.str)) ∧ SmallR prs srs ∧ (∀ r ∈ srs, RowA r) ∧ pl ∈ prs.map (·.1) ∧
  (∀ (p ap as' : Addr) (num : Int) (H' : Hp), (pl, num) ∈ prs → Same H H' → H' p = some (.lst [.ref ap, .ref as']) → PRows H' ap (prs ++ [(z, num)]) → SRows H' as' (twinS pl z srs) → Q (.ref p) H') ∧
  ((∀ r ∈ srs, pl ∈ r.2.1 → r.2.1.length ≤ 1) → ∀ (p ap as' : Addr) (H' : Hp), Same H H' → H' p = some (.lst [.ref ap, .ref as']) → PRows H' ap (prs ++ [(z, 0)]) → SRows H' as' (detourS pl z n1 n2 srs) → Q (.ref p) H')
theorem ok_detoured {k : Nat} (B : Bl mg) (D__law_twinned : Def P w K mg base CX0 k "_law_twinned" ["_law_places", "_law_steps", "_law_place", "_law_word_here"] spTwinned) (F : Src K mg "_law_detoured" s__law_detoured ["_law_places", "_law_steps", "_law_place", "_law_word_here", "_law_names"]) : Def P w K mg base CX0 (k + 1) "_law_detoured" ["_law_places", "_law_steps", "_law_place", "_law_word_here", "_law_names"] spDetoured := by
  refine F.ok sc__law_detoured (fun vs H Q E h => ?_) (fun f cdv A outer s H vs Q E hr h => ?_)
  · obtain ⟨a, c, d, prs, srs, pl, z, n1, n2, ns, rfl, _⟩ := h
    rfl
  · obtain ⟨a, c, d, prs, srs, pl, z, n1, n2, ns, rfl, hP, hS, hd, sml, hasc, hpl, q1, q2⟩ := h
    refine ⟨_, (pss_cons (ps_if (pt_cmpR (kop_neD (K := K) hr.units) (pe_lc (own := [("_law_row", 5)]) (g := gName 5) (by rfl) sc__law_detoured.nd (kpi_list (K := K) (pv 1)) (blkOk_by (N := ["_law_places", "_law_steps", "_law_place", "_law_word_here", "_law_names", "_law_row"]) (sc := defScope s__law_detoured) (by decide +kernel)) (fun _ _ _ _ _ => (pg_name (i := 5) sc__law_detoured.nd rfl (Or.inl rfl))) (fun _ _ _ _ _ => pts_one (PW.pt (pw_and (pt_cmpR (kop_in (K := K)) (pv 2) (pe_ix (kix_tup (K := K)) (pv 5) pe_int (fun _ _ => rfl)) rfl) (pw_and1 (pt_cmpR op_gt (pe_callB (kcall_len (K := K)) (by rfl) B.len PySem.boot_len (pa_cons (pe_ix (kix_tup (K := K)) (pv 5) pe_int (fun _ _ => rfl)) pa_nil)) pe_int (nomark _)))))) (fun _ _ _ _ _ => (pv 5))) (pe_lst pa_nil) (nomark _)) (pss_one (ps_ret (pe_def D__law_twinned hr pass0 (pa_cons (pv 0) (pa_cons (pv 1) (pa_cons (pv 2) (pa_cons (pv 3) pa_nil))))))) pss_nil)
 (pss_one (ps_ret (pe_lst (pa_cons (pe_op op_cat (pv 0) (pe_lst (pa_cons (pe_tup (pa_cons (pv 3) (pa_cons pe_int pa_nil))) pa_nil))) (pa_cons (pe_op op_cat (pv 1) (pe_lst (pa_cons (pe_tup (pa_cons (pe_ix (kix_list (K := K)) (pv 4) pe_int (fun _ _ => rfl)) (pa_cons (pe_lst (pa_cons (pv 2) pa_nil)) (pa_cons (pe_lst (pa_cons (pv 3) pa_nil)) pa_nil)))) (pa_cons (pe_tup (pa_cons (pe_ix (kix_list (K := K)) (pv 4) pe_int (fun _ _ => rfl)) (pa_cons (pe_lst (pa_cons (pv 3) pa_nil)) (pa_cons (pe_lst (pa_cons (pv 2) pa_nil)) pa_nil)))) pa_nil)))) pa_nil)))))), ?_⟩
    obtain ⟨lP, lS, lR⟩ := id sml
    obtain ⟨ts, hts, pts⟩ := id hP
    obtain ⟨us, hus, pus⟩ := id hS
    have lus : us.length = srs.length := Paired.len pus
    have lts : ts.length = prs.length := Paired.len pts
    obtain ⟨zr1, zr2, zr3⟩ := zip_refs pus
    refine go_seq (go_if (go_test (go_op ?_)))
    refine lc_gen (enc := fun x : Addr × SRow => V.ref x.1) (out := fun x => V.ref x.1) (ws := us.zip srs) (p := fun x => decide (pl ∈ x.2.2.1 ∧ 1 < x.2.2.1.length)) (by rw [List.length_zip]; omega) (fun F h => ⟨_, rfl, h c H (Same.refl H) (by rw [zr1]; exact hus)⟩) (fun x hx H2 Qb s2 h => ?_) (fun x hx _ H2 Q' s2 h => ⟨_, rfl, h H2 (Same.refl H2)⟩) fun D1 H3 nD1 s3 hD1 => ?_
    · obtain ⟨b1, c1, e1, e2, e3, _⟩ := zr2 x hx
      refine ⟨_, rfl, _, rfl, x.1, _, _, _, rfl, rfl, SqT.of (s2 _ _ e1), atI_nat (j := 1) rfl, b1, _, rfl, .inl (SqL.of (s2 _ _ e2)), rfl, flat_strs _, _, rfl, ?_⟩
      rw [inV_strs]
      refine ite2 (fun h1 => ?_) (fun h1 => ?_)
      · have h1 : pl ∈ x.2.2.1 := by simpa using h1
        refine ⟨_, rfl, x.1, _, _, _, rfl, rfl, SqT.of (s2 _ _ e1), atI_nat (j := 1) rfl, b1, _, rfl, .inl (SqL.of (s2 _ _ e2)), _, _, rfl, rfl, _, rfl, ?_⟩
        have := h H2 (Same.refl H2)
        rw [List.length_map]
        have e : decide ((1 : Int) < (x.2.2.1.length : Nat)) = decide (pl ∈ x.2.2.1 ∧ 1 < x.2.2.1.length) := by
          by_cases e : 1 < x.2.2.1.length
          · rw [decide_eq_true (show (1 : Int) < (x.2.2.1.length : Nat) by omega), decide_eq_true ⟨h1, e⟩]
          · rw [decide_eq_false (show ¬ (1 : Int) < (x.2.2.1.length : Nat) by omega), decide_eq_false (fun q => e q.2)]
        rw [e]
        exact this
      · have h1 : pl ∉ x.2.2.1 := by simpa using h1
        have := h H2 (Same.refl H2)
        rw [decide_eq_false (fun q => h1 q.1)] at this
        exact this
    generalize hL : (us.zip srs).filter (fun x => decide (pl ∈ x.2.2.1 ∧ 1 < x.2.2.1.length)) = L at hD1
    have hLm : ∀ x ∈ L, x ∈ us.zip srs := fun x hx => by
      rw [← hL] at hx
      exact (List.mem_filter.mp hx).1
    refine ⟨Nat.zero_le _, fun D2 nD2 => ?_⟩
    have s4 := s3.trans (same_upd (o := .lst []) nD2)
    have dps : ∀ M : List (Addr × SRow), (∀ x ∈ M, x ∈ us.zip srs) → DpAll K (upd H3 D2 (.lst [])) (M.map fun x => V.ref x.1) (M.map fun x => rowData x.2) := by
      intro M
      induction M with
      | nil => intro _; exact .nil
      | cons x M ih => intro h; exact .cons (dp_row ((zr2 x (h x (List.mem_cons_self ..))).keep s4)) (ih fun y hy => h y (List.mem_cons_of_mem _ hy))
    have nbs : ∀ M : List (Addr × SRow), (∀ x ∈ M, x ∈ us.zip srs) → nbAll (M.map fun x => rowData x.2) = true := by
      intro M
      induction M with
      | nil => intro _; rfl
      | cons x M ih =>
        intro h
        have hx : x.2 ∈ srs := by
          rw [← zr3]
          exact List.mem_map.mpr ⟨x, h x (List.mem_cons_self ..), rfl⟩
        show (nb (rowData x.2) && nbAll (M.map fun x => rowData x.2)) = true
        rw [nb_row (hasc _ hx), ih fun y hy => h y (List.mem_cons_of_mem _ hy)]
        rfl
    have hnb : nb (.list (L.map fun x => rowData x.2)) = true := nbs L hLm
    have hdep : (PyData.list (L.map fun x => rowData x.2)).depth ≤ 64 := by
      have := depthAll_le (ds := L.map fun x => rowData x.2) (n := 5) fun d hd => by
        obtain ⟨x, _, rfl⟩ := List.mem_map.mp hd
        exact depth_row _
      simp only [PyData.depth]
      omega
    refine ⟨_, _, .lst (SqL.of (same_upd nD2 _ _ hD1)) (dps L hLm), .lst (SqL.of upd_same) .nil, shaped_of hnb hdep, rfl, _, rfl, ?_⟩
    refine ite2 (fun h1 => ?_) (fun h1 => ?_)
    · exact ⟨_, rfl, _, rfl, _, rfl, _, rfl, a, c, prs, srs, pl, z, rfl, hP.keep s4, hS.keep s4, sml, hpl, fun p ap as' num H' hm s5 hp h1 h2 => q1 p ap as' num H' hm (s4.trans s5) hp h1 h2⟩
    · have hLe : L = [] := by
        cases e : L with
        | nil => rfl
        | cons x l => rw [e] at h1; exact absurd rfl h1
      have hno : ∀ r ∈ srs, pl ∈ r.2.1 → r.2.1.length ≤ 1 := fun r hr5 hp5 => by
        rw [← zr3] at hr5
        obtain ⟨x, hx, rfl⟩ := List.mem_map.mp hr5
        rcases Nat.lt_or_ge 1 x.2.2.1.length with h | h
        · have : x ∈ (us.zip srs).filter (fun x => decide (pl ∈ x.2.2.1 ∧ 1 < x.2.2.1.length)) := List.mem_filter.mpr ⟨hx, decide_eq_true ⟨hp5, h⟩⟩
          rw [hL, hLe] at this
          cases this
        · exact h
      refine ⟨_, rfl, _, rfl, by show 2 ≤ sizeLine; decide, fun t1 nt1 => ?_⟩
      have s5 := s4.trans (same_upd (o := .tup [.str z, .int 0]) nt1)
      refine ⟨by show 1 ≤ sizeLine; decide, fun l1 nl1 => ?_⟩
      have s6 := s5.trans (same_upd (o := .lst [.ref t1]) nl1)
      refine ⟨a, l1, _, _, rfl, rfl, s6 _ _ hts, upd_same, ?_, fun p1 np1 => ?_⟩
      · rw [List.length_map]
        exact Nat.le_trans (show ts.length + 1 ≤ 1000 by omega) (by decide)
      have u7 := same_upd (o := .lst (ts.map V.ref ++ [.ref t1])) np1
      have s7 := s6.trans u7
      have hP7 := PRows.cat (a := a) (us := [t1]) (qrs := [(z, 0)]) (Paired.same pts s6) (.cons (same_upd nl1 _ _ upd_same) .nil) u7 upd_same
      -- the first new step
      refine ⟨_, rfl, _, rfl, d, _, _, _, rfl, rfl, SqL.of (s7 _ _ hd), atI_nat (j := 0) rfl, _, rfl, by show 1 ≤ sizeLine; decide, fun m1 nm1 => ?_⟩
      have u8 := same_upd (o := .lst [.str pl]) nm1
      refine ⟨_, rfl, by show 1 ≤ sizeLine; decide, fun m2 nm2 => ?_⟩
      have u9 := same_upd (o := .lst [.str z]) nm2
      refine ⟨by show 3 ≤ sizeLine; decide, fun m3 nm3 => ?_⟩
      have u10 := same_upd (o := .tup [.str n1, .ref m1, .ref m2]) nm3
      have s10 := ((s7.trans u8).trans u9).trans u10
      -- the second
      refine ⟨_, rfl, d, _, _, _, rfl, rfl, SqL.of (s10 _ _ hd), atI_nat (j := 1) rfl, _, rfl, by show 1 ≤ sizeLine; decide, fun m4 nm4 => ?_⟩
      have u11 := same_upd (o := .lst [.str z]) nm4
      refine ⟨_, rfl, by show 1 ≤ sizeLine; decide, fun m5 nm5 => ?_⟩
      have u12 := same_upd (o := .lst [.str pl]) nm5
      refine ⟨by show 3 ≤ sizeLine; decide, fun m6 nm6 => ?_⟩
      have u13 := same_upd (o := .tup [.str n2, .ref m4, .ref m5]) nm6
      refine ⟨by show 2 ≤ sizeLine; decide, fun l2 nl2 => ?_⟩
      have u14 := same_upd (o := .lst [.ref m3, .ref m6]) nl2
      have s14 := (((s10.trans u11).trans u12).trans u13).trans u14
      refine ⟨c, l2, _, _, rfl, rfl, s14 _ _ hus, upd_same, ?_, fun p2 np2 => ?_⟩
      · rw [List.length_map]
        exact Nat.le_trans (show us.length + 2 ≤ 1000 by omega) (by decide)
      have u15 := same_upd (o := .lst (us.map V.ref ++ [.ref m3, .ref m6])) np2
      refine ⟨by show 2 ≤ sizeLine; decide, fun p3 np3 => ?_⟩
      have u16 := same_upd (o := .lst [.ref p1, .ref p2]) np3
      have k14 := ((((((u8.trans u9).trans u10).trans u11).trans u12).trans u13).trans u14)
      refine q2 hno p3 p1 p2 _ ((s14.trans u15).trans u16) upd_same (hP7.keep ((k14.trans u15).trans u16)) ?_
      have r1 : SRowIn _ l2 m3 (n1, [pl], [z]) := ⟨m1, m2, ((u11.trans u12).trans u13).trans u14 |> fun u => u _ _ upd_same, ((((u9.trans u10).trans u11).trans u12).trans u13).trans u14 |> fun u => u _ _ upd_same, (((u10.trans u11).trans u12).trans u13).trans u14 |> fun u => u _ _ upd_same,
        ne_of_none ((((u9.trans u10).trans u11).trans u12).trans u13 |> fun u => u _ _ upd_same) nl2, ne_of_none (((u10.trans u11).trans u12).trans u13 |> fun u => u _ _ upd_same) nl2⟩
      have r2 : SRowIn _ l2 m6 (n2, [z], [pl]) := ⟨m4, m5, u14 _ _ upd_same, (u12.trans u13).trans u14 |> fun u => u _ _ upd_same, u13.trans u14 |> fun u => u _ _ upd_same,
        ne_of_none (u12.trans u13 |> fun u => u _ _ upd_same) nl2, ne_of_none (u13 _ _ upd_same) nl2⟩
      exact SRows.keep (SRows.cat (a := c) (c := l2) (us := [m3, m6]) (qrs := [(n1, [pl], [z]), (n2, [z], [pl])]) (Paired.imp2 (fun _ _ h => h.keep s14) pus) (.cons r1 (.cons r2 .nil)) u15 np2 upd_same) u16
end

/-! ## g13g -/
/-! plans grown from a ring -/
def ringS (ws ns : List Str) (size : Nat) : List SRow := (List.range size).map fun k => (ns.getD k "", [ws.getD k ""], [ws.getD ((k + 1) % size) ""])
inductive GrownR (ws ns : List Str) : List (Str × Int) → List SRow → Prop
  | ring {size : Nat} {prs : List (Str × Int)} : 1 ≤ size → size ≤ 3 → prs.map (·.1) = ws.take size → (∀ r ∈ prs, 0 ≤ r.2 ∧ r.2 ≤ 2) → (∀ r, prs[0]? = some r → 1 ≤ r.2) → size ≤ ws.length → size ≤ ns.length → GrownR ws ns prs (ringS ws ns size)
  | stretch {prs : List (Str × Int)} {srs : List SRow} {pl z n : Str} : GrownR ws ns prs srs → pl ∈ prs.map (·.1) → ws[prs.length]? = some z → ns[srs.length]? = some n → GrownR ws ns (prs ++ [(z, 0)]) (stretchS pl z n srs)
  | twin {prs : List (Str × Int)} {srs : List SRow} {pl z : Str} {num : Int} : GrownR ws ns prs srs → (pl, num) ∈ prs → ws[prs.length]? = some z → GrownR ws ns (prs ++ [(z, num)]) (twinS pl z srs)
  | copy {prs : List (Str × Int)} {srs : List SRow} {r : SRow} {n : Str} : GrownR ws ns prs srs → r ∈ srs → ns[srs.length]? = some n → GrownR ws ns prs (srs ++ [(n, r.2.1, r.2.2)])
  | detour {prs : List (Str × Int)} {srs : List SRow} {pl z n1 n2 : Str} : GrownR ws ns prs srs → (∀ r ∈ srs, pl ∈ r.2.1 → r.2.1.length ≤ 1) → pl ∈ prs.map (·.1) → ws[prs.length]? = some z → ns[srs.length]? = some n1 → ns[srs.length + 1]? = some n2 → GrownR ws ns (prs ++ [(z, 0)]) (detourS pl z n1 n2 srs)
def RowS (ps : List Str) (r : SRow) : Prop := r.2.1 ≠ [] ∧ r.2.1.Nodup ∧ (∀ y ∈ r.2.1, y ∈ ps) ∧ r.2.2.Nodup ∧ (∀ y ∈ r.2.2, y ∈ ps)
structure Grow (ws ns : List Str) (prs : List (Str × Int)) (srs : List SRow) : Prop where
  pm : prs.map (·.1) = ws.take prs.length
  sm : srs.map (·.1) = ns.take srs.length
  pr : ∀ r ∈ prs, 0 ≤ r.2 ∧ r.2 ≤ 2
  sr : ∀ r ∈ srs, RowS (prs.map (·.1)) r
  p1 : 1 ≤ prs.length
  s1 : 1 ≤ srs.length
theorem RowS.more {ps qs : List Str} {r : SRow} (h : RowS ps r) (e : ∀ y ∈ ps, y ∈ qs) : RowS qs r := ⟨h.1, h.2.1, fun y hy => e y (h.2.2.1 y hy), h.2.2.2.1, fun y hy => e y (h.2.2.2.2 y hy)⟩
theorem new_word {ws : List Str} {i : Nat} {z : Str} (wn : ws.Nodup) (h : ws[i]? = some z) : z ∉ ws.take i := fun hm => by
  obtain ⟨a, ha, hza⟩ := List.getElem_of_mem hm
  rw [List.getElem_take] at hza
  rw [List.length_take] at ha
  have hi : i < ws.length := by
    rcases Nat.lt_or_ge i ws.length with h' | h'
    · exact h'
    · rw [List.getElem?_eq_none h'] at h
      cases h
  rw [List.getElem?_eq_getElem hi] at h
  have := (List.getElem_inj wn).mp (hza.trans (Option.some.inj h).symm)
  omega
theorem nodup_ren {l : List Str} {pl z : Str} (h : l.Nodup) (hz : z ∉ l) : (l.map fun y => if y = pl then z else y).Nodup := by
  induction l with
  | nil => exact .nil
  | cons a l ih =>
    obtain ⟨h1, h2⟩ := List.nodup_cons.mp h
    have hz2 : z ∉ l := fun q => hz (List.mem_cons_of_mem _ q)
    rw [List.map_cons, List.nodup_cons]
    refine ⟨fun hm => ?_, ih h2 hz2⟩
    obtain ⟨y, hy, e⟩ := List.mem_map.mp hm
    by_cases ea : a = pl
    · rw [if_pos ea] at e
      by_cases ey : y = pl
      · exact h1 (by rw [ea, ← ey]; exact hy)
      · rw [if_neg ey] at e
        exact hz2 (by rw [← e]; exact hy)
    · rw [if_neg ea] at e
      by_cases ey : y = pl
      · rw [if_pos ey] at e
        exact hz (by rw [e]; exact List.mem_cons_self ..)
      · rw [if_neg ey] at e
        exact h1 (by rw [← e]; exact hy)
theorem ring_mem {ws ns : List Str} {size : Nat} {r : SRow} (h : r ∈ ringS ws ns size) : ∃ k, k < size ∧ r = (ns.getD k "", [ws.getD k ""], [ws.getD ((k + 1) % size) ""]) := by
  obtain ⟨k, hk, rfl⟩ := List.mem_map.mp h
  exact ⟨k, List.mem_range.mp hk, rfl⟩
theorem getD_take {l : List Str} {k n : Nat} (hk : k < n) (hn : n ≤ l.length) : l.getD k "" ∈ l.take n := by
  have hkl : k < l.length := by omega
  rw [List.getD_eq_getElem?_getD, List.getElem?_eq_getElem hkl]
  refine List.mem_iff_getElem.mpr ⟨k, by rw [List.length_take]; omega, ?_⟩
  rw [List.getElem_take]
  rfl
theorem ring_names (ws : List Str) {ns : List Str} {size : Nat} (h : size ≤ ns.length) : (ringS ws ns size).map (·.1) = ns.take size := by
  unfold ringS
  rw [List.map_map]
  refine List.ext_getElem (by rw [List.length_map, List.length_range, List.length_take]; omega) fun i h1 h2 => ?_
  rw [List.getElem_map, List.getElem_range, List.getElem_take]
  rw [List.length_map, List.length_range] at h1
  show ns.getD i "" = _
  rw [List.getD_eq_getElem?_getD, List.getElem?_eq_getElem (by omega)]
  rfl
theorem GrownR.grow {ws ns : List Str} {prs : List (Str × Int)} {srs : List SRow} (wn : ws.Nodup) (h : GrownR ws ns prs srs) : Grow ws ns prs srs := by
  induction h with
  | @ring size prs h1 h2 h3 h4 h4' h5 h6 =>
    have lp : prs.length = size := by
      have := congrArg List.length h3
      rw [List.length_map, List.length_take] at this
      omega
    have ls : (ringS ws ns size).length = size := by unfold ringS; rw [List.length_map, List.length_range]
    refine ⟨by rw [lp]; exact h3, by rw [ls]; exact ring_names ws h6, h4, fun r hr => ?_, by omega, by omega⟩
    obtain ⟨k, hk, rfl⟩ := ring_mem hr
    rw [h3]
    refine ⟨by simp, by simp, fun y hy => ?_, by simp, fun y hy => ?_⟩
    · rw [List.mem_singleton.mp hy]
      exact getD_take hk h5
    · rw [List.mem_singleton.mp hy]
      exact getD_take (Nat.mod_lt _ (by omega)) h5
  | @stretch prs srs pl z n _ hpl hz hn ih =>
    have hzn := new_word wn hz
    rw [← ih.pm] at hzn
    have em : (prs ++ [((z : Str), (0 : Int))]).map (·.1) = prs.map (·.1) ++ [z] := by rw [List.map_append]; rfl
    have ls : (srs.map (fun r => ((r.1, r.2.1.map (fun y => if y = pl then z else y), r.2.2) : SRow))).length = srs.length := List.length_map _
    refine ⟨?_, ?_, fun r hr => ?_, fun r hr => ?_, by rw [List.length_append]; show 1 ≤ _ + 1; omega, ?_⟩
    · rw [em, ih.pm, List.length_append]
      exact (take_more hz).symm
    · unfold stretchS
      rw [List.map_append, List.map_map, List.length_append, ls]
      show srs.map (·.1) ++ [n] = ns.take (srs.length + 1)
      rw [take_more hn, ih.sm]
    · rcases List.mem_append.mp hr with h | h
      · exact ih.pr r h
      · rw [List.mem_singleton.mp h]
        exact ⟨Int.le_refl 0, show (0 : Int) ≤ 2 by decide⟩
    · rw [em]
      unfold stretchS at hr
      rcases List.mem_append.mp hr with h | h
      · obtain ⟨r, hr9, rfl⟩ := List.mem_map.mp h
        obtain ⟨a1, a2, a3, a4, a5⟩ := ih.sr r hr9
        refine ⟨fun e => a1 (List.map_eq_nil_iff.mp e), nodup_ren a2 (fun q => hzn (a3 z q)), fun y hy => ?_, a4, fun y hy => List.mem_append_left _ (a5 y hy)⟩
        obtain ⟨x, hx, rfl⟩ := List.mem_map.mp hy
        split
        · exact List.mem_append_right _ (List.mem_singleton.mpr rfl)
        · exact List.mem_append_left _ (a3 x hx)
      · rw [List.mem_singleton.mp h]
        refine ⟨by simp, by simp, fun y hy => ?_, by simp, fun y hy => ?_⟩
        · rw [List.mem_singleton.mp hy]
          exact List.mem_append_left _ hpl
        · rw [List.mem_singleton.mp hy]
          exact List.mem_append_right _ (List.mem_singleton.mpr rfl)
    · unfold stretchS
      rw [List.length_append]
      show 1 ≤ _ + 1
      omega
  | @twin prs srs pl z num _ hpl hz ih =>
    have hzn := new_word wn hz
    rw [← ih.pm] at hzn
    have em : (prs ++ [((z : Str), (num : Int))]).map (·.1) = prs.map (·.1) ++ [z] := by rw [List.map_append]; rfl
    have more : ∀ {l : List Str}, l.Nodup → (∀ y ∈ l, y ∈ prs.map (·.1)) → (l ++ (if pl ∈ l then [z] else [])).Nodup ∧ ∀ y ∈ l ++ (if pl ∈ l then [z] else []), y ∈ prs.map (·.1) ++ [z] := fun {l} h1 h2 => by
      split
      · refine ⟨nodup_snoc h1 fun q => hzn (h2 z q), fun y hy => ?_⟩
        rcases List.mem_append.mp hy with h | h
        · exact List.mem_append_left _ (h2 y h)
        · exact List.mem_append_right _ h
      · rw [List.append_nil]
        exact ⟨h1, fun y hy => List.mem_append_left _ (h2 y hy)⟩
    refine ⟨?_, ?_, fun r hr => ?_, fun r hr => ?_, by rw [List.length_append]; show 1 ≤ _ + 1; omega, ?_⟩
    · rw [em, ih.pm, List.length_append]
      exact (take_more hz).symm
    · unfold twinS
      rw [List.map_map, List.length_map]
      exact ih.sm
    · rcases List.mem_append.mp hr with h | h
      · exact ih.pr r h
      · rw [List.mem_singleton.mp h]
        exact ih.pr (pl, num) hpl
    · rw [em]
      unfold twinS at hr
      obtain ⟨r, hr9, rfl⟩ := List.mem_map.mp hr
      obtain ⟨a1, a2, a3, a4, a5⟩ := ih.sr r hr9
      obtain ⟨m1, m2⟩ := more a2 a3
      obtain ⟨m3, m4⟩ := more a4 a5
      exact ⟨fun e => a1 (List.append_eq_nil_iff.mp e).1, m1, m2, m3, m4⟩
    · unfold twinS
      rw [List.length_map]
      exact ih.s1
  | @copy prs srs r n _ hr0 hn ih =>
    refine ⟨ih.pm, ?_, ih.pr, fun r' hr => ?_, ih.p1, by rw [List.length_append]; show 1 ≤ _ + 1; omega⟩
    · rw [List.map_append, List.length_append]
      show srs.map (·.1) ++ [n] = ns.take (srs.length + 1)
      rw [take_more hn, ih.sm]
    · rcases List.mem_append.mp hr with h | h
      · exact ih.sr r' h
      · rw [List.mem_singleton.mp h]
        exact ih.sr r hr0
  | @detour prs srs pl z n1 n2 _ _ hpl hz hn1 hn2 ih =>
    have em : (prs ++ [((z : Str), (0 : Int))]).map (·.1) = prs.map (·.1) ++ [z] := by rw [List.map_append]; rfl
    have hzm : z ∈ prs.map (·.1) ++ [z] := List.mem_append_right _ (List.mem_singleton.mpr rfl)
    have hpm : pl ∈ prs.map (·.1) ++ [z] := List.mem_append_left _ hpl
    refine ⟨?_, ?_, fun r hr => ?_, fun r hr => ?_, by rw [List.length_append]; show 1 ≤ _ + 1; omega, ?_⟩
    · rw [em, ih.pm, List.length_append]
      exact (take_more hz).symm
    · unfold detourS
      rw [List.map_append, List.length_append]
      show srs.map (·.1) ++ [n1, n2] = ns.take (srs.length + 1 + 1)
      rw [take_more hn2, take_more hn1, ih.sm, List.append_assoc]
      rfl
    · rcases List.mem_append.mp hr with h | h
      · exact ih.pr r h
      · rw [List.mem_singleton.mp h]
        exact ⟨Int.le_refl 0, show (0 : Int) ≤ 2 by decide⟩
    · rw [em]
      unfold detourS at hr
      rcases List.mem_append.mp hr with h | h
      · exact (ih.sr r h).more fun y hy => List.mem_append_left _ hy
      · have one : ∀ {a c : Str} {n : Str}, a ∈ prs.map (·.1) ++ [z] → c ∈ prs.map (·.1) ++ [z] → RowS (prs.map (·.1) ++ [z]) (n, [a], [c]) := fun {a c n} ha hc =>
          ⟨by simp, by simp, fun y hy => by rw [List.mem_singleton.mp hy]; exact ha, by simp, fun y hy => by rw [List.mem_singleton.mp hy]; exact hc⟩
        rcases List.mem_cons.mp h with h | h
        · rw [h]
          exact one hpm hzm
        · rw [List.mem_singleton.mp h]
          exact one hzm hpm
    · unfold detourS
      rw [List.length_append]
      show 1 ≤ _ + 2
      omega

/-! ## g13r -/
section
variable {P : Program} {w : World} {K : PySem.W.Frag} {mg : Str → Option Value} {base : Heap}
theorem str_at {ws : List Str} {i : Nat} (h : i < ws.length) : atI (ws.map V.str) (i : Int) = some (.str (ws.getD i "")) := by
  refine atI_nat ?_
  rw [List.getElem?_map, List.getElem?_eq_getElem h, List.getD_eq_getElem?_getD, List.getElem?_eq_getElem h]
  rfl
theorem getD_at {ws : List Str} {i : Nat} (h : i < ws.length) : ws[i]? = some (ws.getD i "") := by
  rw [List.getD_eq_getElem?_getD, List.getElem?_eq_getElem h]
  rfl
abbrev s__law_ring : Stmt := topS 38
theorem sc__law_ring : FnScope ["_law_box_here", "_law_words_here", "_law_names", "_law_size", "_law_places", "_law_k"] ["_law_box_here", "_law_words_here", "_law_names"] (defScope s__law_ring) := ⟨rfl, rfl, rfl, by decide +kernel, rfl, by decide +kernel, by decide +kernel⟩
def spRing : Sp := fun vs H Q _ => ∃ (b l W N : Addr) (ws ns : List Str), vs = [.ref b, .ref W, .ref N] ∧ Box H b l ∧ H W = some (.lst (ws.map V.str)) ∧ H N = some (.lst (ns.map V.str)) ∧ 3 ≤ ws.length ∧ 3 ≤ ns.length ∧
  ∀ (p ap as' : Addr) (prs : List (Str × Int)) (srs : List SRow) (H' : Hp), GrownR ws ns prs srs → prs.length ≤ 3 → srs.length ≤ 3 → Bx b l H H' → H' p = some (.lst [.ref ap, .ref as']) → PRows H' ap prs → SRows H' as' srs → Q (.ref p) H'
theorem ok_ring {k : Nat} (B : Bl mg) (D__law_next : Def P w K mg base CX0 k "_law_next" ["_law_box_here", "_law_many"] spNext) (F : Src K mg "_law_ring" s__law_ring ["_law_box_here", "_law_words_here", "_law_names"]) : Def P w K mg base CX0 (k + 1) "_law_ring" ["_law_box_here", "_law_words_here", "_law_names"] spRing := by
  refine F.ok sc__law_ring (fun vs H Q E h => ?_) (fun f cdv A outer s H vs Q E hr h => ?_)
  · obtain ⟨b, l, W, N, ws, ns, rfl, _⟩ := h
    rfl
  · obtain ⟨b, l, W, N, ws, ns, rfl, hb, hW, hN, lw, ln, q⟩ := h
    refine ⟨_, (pss_cons (ps_asg (pe_op op_add pe_int (pe_def D__law_next hr pass0 (pa_cons (pv 0) (pa_cons pe_int pa_nil)))) (pg_name (i := 3) sc__law_ring.nd rfl (Or.inr rfl)))
 (pss_cons (ps_asg (pe_lst (pa_cons (pe_tup (pa_cons (pe_ix (kix_list (K := K)) (pv 1) pe_int (fun _ _ => rfl)) (pa_cons (pe_op op_add pe_int (pe_def D__law_next hr pass0 (pa_cons (pv 0) (pa_cons pe_int pa_nil)))) pa_nil))) pa_nil)) (pg_name (i := 4) sc__law_ring.nd rfl (Or.inl rfl)))
 (pss_cons (ps_for PassesOwn.never rfl (pi_range1 (by rfl) B.range (pa_cons (pe_op op_sub (pv 3) pe_int) pa_nil)) (pg_name (i := 5) sc__law_ring.nd rfl (Or.inl rfl)) (pss_one (ps_expr (pe_bm PySem.F.plainAttrs_list PySem.F.slot_list_append PySem.F.type_list_append mt_append (pv 4) (pa_cons (pe_tup (pa_cons (pe_ix (kix_list (K := K)) (pv 1) (pe_op op_add (pv 5) pe_int) (fun _ _ => rfl)) (pa_cons (pe_def D__law_next hr pass0 (pa_cons (pv 0) (pa_cons pe_int pa_nil))) pa_nil))) pa_nil)))))
 (pss_one (ps_ret (pe_lst (pa_cons (pv 4) (pa_cons (pe_lc (own := [("_law_k", 5)]) (g := gName 5) (by rfl) sc__law_ring.nd (pi_range1 (by rfl) B.range (pa_cons (pv 3) pa_nil)) (blkOk_by (N := ["_law_box_here", "_law_words_here", "_law_names", "_law_size", "_law_places", "_law_k"]) (sc := defScope s__law_ring) (by decide +kernel)) (fun _ _ _ _ _ => (pg_name (i := 5) sc__law_ring.nd rfl (Or.inl rfl))) (fun _ _ _ _ _ => pts_nil) (fun _ _ _ _ _ => (pe_tup (pa_cons (pe_ix (kix_list (K := K)) (pv 2) (pv 5) (fun _ _ => rfl)) (pa_cons (pe_lst (pa_cons (pe_ix (kix_list (K := K)) (pv 1) (pv 5) (fun _ _ => rfl)) pa_nil)) (pa_cons (pe_lst (pa_cons (pe_ix (kix_list (K := K)) (pv 1) (pe_op op_modN (pe_op op_add (pv 5) pe_int) (pv 3)) (fun _ _ => rfl)) pa_nil)) pa_nil)))))) pa_nil)))))))), ?_⟩
    refine ⟨_, rfl, b, l, 3, rfl, by decide, by decide, hb, fun n H1 a0 a1 s1 => ⟨_, _, rfl, rfl, ?_⟩⟩
    obtain ⟨j, rfl⟩ : ∃ j : Nat, n = j := ⟨n.toNat, by omega⟩
    have hj : j < 3 := by omega
    refine ⟨_, rfl, W, _, _, _, rfl, rfl, SqL.of (s1.strs hW), str_at (i := 0) (by omega), _, rfl, b, l, 2, rfl, by decide, by decide, s1.b1, fun n2 H2 b0 b1 s2 => ⟨_, _, rfl, rfl, ?_⟩⟩
    refine ⟨by show 2 ≤ sizeLine; decide, fun t nt => ?_⟩
    have s3 := (s1.trans s2).new (o := .tup [.str (ws.getD 0 ""), .int (1 + n2)]) nt
    refine ⟨by show 1 ≤ sizeLine; decide, fun D nD => ?_⟩
    have s4 := s3.new (o := .lst [.ref t]) nD
    have nDH := s3.free nD
    refine ⟨_, rfl, _, _, rfl, rfl, _, rfl, by omega, by omega, for_range (lo := 0) (n := (1 + (j : Int) - 1).toNat) (fun i σ H' => ∃ (prs : List (Str × Int)) (y : Option V), σ = [some (.ref b), some (.ref W), some (.ref N), some (.int (1 + (j : Int))), some (.ref D), y] ∧ prs.map (·.1) = ws.take (i + 1) ∧ (∀ r ∈ prs, 0 ≤ r.2 ∧ r.2 ≤ 2) ∧ (∀ r, prs[0]? = some r → 1 ≤ r.2) ∧ Bx b l H H' ∧ PRows H' D prs)
      ⟨[(ws.getD 0 "", 1 + n2)], none, rfl, ?_, (fun r hr => by rw [List.mem_singleton.mp hr]; exact ⟨by show 0 ≤ 1 + n2; omega, by show 1 + n2 ≤ 2; omega⟩), (fun r hr => by cases hr; show 1 ≤ 1 + n2; omega), s4, ⟨[t], upd_same, .cons (same_upd nD _ _ upd_same) .nil⟩⟩ ?_ ?_⟩
    · rw [take_more (getD_at (i := 0) (by omega))]
      rfl
    · rintro i σ H' hi ⟨prs, y, rfl, hp, hw, h0, sm, hP⟩
      have hi2 : i < j := by omega
      have hlp : prs.length = i + 1 := by
        have := congrArg List.length hp
        rw [List.length_map, List.length_take] at this
        omega
      refine ⟨_, rfl, .inl ⟨rfl, _, SqL.of hP.choose_spec.1⟩, _, rfl, _, rfl, _, _, rfl, rfl, W, _, _, _, rfl, rfl, SqL.of (sm.strs hW), by rw [Int.zero_add]; exact str_at (i := i + 1) (by omega), _, rfl, b, l, 2, rfl, by decide, by decide, sm.b1, fun n3 H3 c0 c1 s5 => ?_⟩
      refine ⟨by show 2 ≤ sizeLine; decide, fun t2 nt2 => ?_⟩
      have s6 := s5.new (o := .tup [.str (ws.getD (i + 1) ""), .int n3]) nt2
      obtain ⟨ts2, hts2, pts2⟩ := hP.bx s6
      refine ⟨D, _, _, rfl, rfl, hts2, ?_, ?_⟩
      · rw [List.length_map, Paired.len pts2]
        exact small1000 (by omega)
      · refine ⟨prs ++ [(ws.getD (i + 1) "", n3)], _, rfl, ?_, fun r hr5 => ?_, fun r hr5 => ?_, (sm.trans s6).mut nDH, PRows.snoc hts2 pts2 upd_same⟩
        · rw [List.map_append, hp, take_more (getD_at (i := i + 1) (by omega))]
          rfl
        · rcases List.mem_append.mp hr5 with h | h
          · exact hw r h
          · rw [List.mem_singleton.mp h]
            exact ⟨c0, by show n3 ≤ 2; omega⟩
        · rw [List.getElem?_append_left (by omega)] at hr5
          exact h0 r hr5
    · rintro σ H' ⟨prs, y, rfl, hp, hw, h0, sm, hP⟩
      have e1 : (1 + (j : Int) - 1).toNat + 1 = j + 1 := by omega
      rw [e1] at hp
      have lp : prs.length = j + 1 := by
        have := congrArg List.length hp
        rw [List.length_map, List.length_take] at this
        omega
      have hW' := sm.strs hW
      have hN' := sm.strs hN
      refine ⟨_, rfl, _, rfl, _, rfl, by omega, by omega, fun D2 nD2 => lc_range (lo := 0) (n := (1 + (j : Int)).toNat) (fun i G => Same H' G ∧ SRows G D2 ((ringS ws ns (j + 1)).take i)) ⟨same_upd nD2, ⟨[], upd_same, .nil⟩⟩ ?_ ?_⟩
      · rintro i G hi ⟨sg, hT⟩
        have hi2 : i < j + 1 := by omega
        have hrow : (ringS ws ns (j + 1))[i]? = some (ns.getD i "", [ws.getD i ""], [ws.getD ((i + 1) % (j + 1)) ""]) := by
          unfold ringS
          rw [List.getElem?_map, List.getElem?_range hi2]
          rfl
        have hmod : (i + 1) % (j + 1) < ws.length := by
          have := Nat.mod_lt (i + 1) (show 0 < j + 1 by omega)
          omega
        refine ⟨rfl, yes_if ?_⟩
        refine ⟨_, rfl, _, rfl, N, _, _, _, rfl, rfl, SqL.of (sg _ _ hN'), by rw [Int.zero_add]; exact str_at (i := i) (by omega), ?_⟩
        refine ⟨_, rfl, _, rfl, W, _, _, _, rfl, rfl, SqL.of (sg _ _ hW'), by rw [Int.zero_add]; exact str_at (i := i) (by omega), by show 1 ≤ sizeLine; decide, fun m1 nm1 => ?_⟩
        have u1 := same_upd (o := .lst [.str (ws.getD i "")]) nm1
        refine ⟨_, rfl, _, rfl, _, _, rfl, rfl, _, rfl, _, _, rfl, rfl, ?_⟩
        have hat : atI (ws.map V.str) (Int.fmod (0 + (i : Int) + 1) (1 + (j : Int))) = some (.str (ws.getD ((i + 1) % (j + 1)) "")) := by
          rw [show (0 + (i : Int) + 1) = ((i + 1 : Nat) : Int) by omega, show (1 + (j : Int)) = ((j + 1 : Nat) : Int) by omega, Int.fmod_eq_emod_of_nonneg _ (Int.natCast_nonneg _)]
          exact str_at hmod
        refine ⟨show (1 + (j : Int)) ≠ 0 by omega, W, _, _, _, rfl, rfl, SqL.of (u1 _ _ (sg _ _ hW')), hat, by show 1 ≤ sizeLine; decide, fun m2 nm2 => ?_⟩
        have u2 := same_upd (o := .lst [.str (ws.getD ((i + 1) % (j + 1)) "")]) nm2
        refine ⟨by show 3 ≤ sizeLine; decide, fun t3 nt3 => ?_⟩
        have u3 := same_upd (o := .tup [.str (ns.getD i ""), .ref m1, .ref m2]) nt3
        obtain ⟨vs1, hv1, pv1⟩ := id hT
        obtain ⟨vs2, hv2, pv2⟩ := hT.keep ((u1.trans u2).trans u3)
        have n1 : m1 ≠ D2 := Ne.symm (ne_of_none hv1 nm1)
        have n2 : m2 ≠ D2 := Ne.symm (ne_of_none (u1 _ _ hv1) nm2)
        refine ⟨_, hv2, ?_, (sg.trans ((u1.trans u2).trans u3)).mut nD2, ?_⟩
        · rw [List.length_map, Paired.len pv2, List.length_take]
          exact small1000 (by omega)
        · rw [take_more hrow]
          exact SRows.snoc hv2 pv2 ⟨m1, m2, upd_same, (u2.trans u3) _ _ upd_same, u3 _ _ upd_same, n1, n2⟩
      · rintro G ⟨sg, hT⟩
        have ls : (ringS ws ns (j + 1)).length = j + 1 := by unfold ringS; rw [List.length_map, List.length_range]
        rw [List.take_of_length_le (by omega)] at hT
        refine ⟨by show 2 ≤ sizeLine; decide, fun p np => ?_⟩
        have u := same_upd (o := .lst [.ref D, .ref D2]) np
        exact q p D D2 prs _ _ (.ring (by omega) (by omega) hp hw h0 (by omega) (by omega)) (by omega) (by omega) ((sm.same sg).same u) upd_same (hP.keep (sg.trans u)) (hT.keep u)
theorem perm_rot {α : Type} (l : List α) (i : Nat) : (l.drop i ++ l.take i).Perm l := by
  have h := List.perm_append_comm (l₁ := l.drop i) (l₂ := l.take i)
  rw [List.take_append_drop] at h
  exact h
theorem Grow.good {ws ns : List Str} {prs prs' : List (Str × Int)} {srs srs' : List SRow} (G : Grow ws ns prs srs) (wn : ws.Nodup) (nn : ns.Nodup) (ww : ∀ z ∈ ws, Wd z) (nw : ∀ z ∈ ns, Wd z) (lp : prs.length ≤ 7) (ls : srs.length ≤ 13) (hp : prs'.Perm prs) (hs : srs'.Perm srs) : GoodRows prs' srs' := by
  have pm : ∀ {y : Str}, y ∈ prs.map (·.1) → y ∈ prs'.map (·.1) := fun h => (hp.map (·.1)).symm.subset h
  have e1 := hp.length_eq
  have e2 := hs.length_eq
  refine ⟨fun r hr => ?_, ?_, fun r hr => ?_, ?_, by have := G.p1; omega, by omega, by have := G.s1; omega, by omega⟩
  · have hr := hp.subset hr
    have hm : r.1 ∈ prs.map (·.1) := List.mem_map.mpr ⟨r, hr, rfl⟩
    rw [G.pm] at hm
    exact ⟨ww _ (List.mem_of_mem_take hm), G.pr r hr⟩
  · refine (hp.map (·.1)).nodup_iff.mpr ?_
    rw [G.pm]
    exact (List.take_sublist _ _).nodup wn
  · have hr := hs.subset hr
    have hm : r.1 ∈ srs.map (·.1) := List.mem_map.mpr ⟨r, hr, rfl⟩
    rw [G.sm] at hm
    obtain ⟨a1, a2, a3, a4, a5⟩ := G.sr r hr
    exact ⟨nw _ (List.mem_of_mem_take hm), a1, a2, fun y hy => pm (a3 y hy), a4, fun y hy => pm (a5 y hy)⟩
  · refine (hs.map (·.1)).nodup_iff.mpr ?_
    rw [G.sm]
    exact (List.take_sublist _ _).nodup nn
theorem Grow.small {ws ns : List Str} {prs : List (Str × Int)} {srs : List SRow} (G : Grow ws ns prs srs) (lp : prs.length ≤ 7) (ls : srs.length ≤ 13) : SmallR prs srs := by
  refine ⟨by omega, by omega, fun r hr => ?_⟩
  obtain ⟨a1, a2, a3, a4, a5⟩ := G.sr r hr
  have h1 := List.Nodup.length_le_of_subset a2 a3
  have h2 := List.Nodup.length_le_of_subset a4 a5
  rw [List.length_map] at h1 h2
  omega
theorem Grow.asc {ws ns : List Str} {prs : List (Str × Int)} {srs : List SRow} (G : Grow ws ns prs srs) (ww : ∀ z ∈ ws, Wd z) (nw : ∀ z ∈ ns, Wd z) : ∀ r ∈ srs, RowA r := fun r hr => by
  obtain ⟨a1, a2, a3, a4, a5⟩ := G.sr r hr
  have hm : r.1 ∈ srs.map (·.1) := List.mem_map.mpr ⟨r, hr, rfl⟩
  rw [G.sm] at hm
  have hy : ∀ y ∈ prs.map (·.1), Asc y := fun y hy => by
    rw [G.pm] at hy
    exact (ww _ (List.mem_of_mem_take hy)).asc
  exact ⟨(nw _ (List.mem_of_mem_take hm)).asc, fun y h => hy y (a3 y h), fun y h => hy y (a5 y h)⟩
abbrev s__law_grown : Stmt := topS 39
theorem sc__law_grown : FnScope ["_law_box_here", "_law_words_here", "_law_names", "_law_places", "_law_steps", "_law_turn", "_law_deed", "_law_place", "_law_word_here", "_law_fresh", "_law_row", "_law_first", "_law_last"] ["_law_box_here"] (defScope s__law_grown) := ⟨rfl, rfl, rfl, by decide +kernel, rfl, by decide +kernel, by decide +kernel⟩
theorem ok_grown {k : Nat} (B : Bl mg) (D__law_next : Def P w K mg base CX0 k "_law_next" ["_law_box_here", "_law_many"] spNext) (D__law_words : Def P w K mg base CX0 k "_law_words" ["_law_box_here", "_law_many"] spWords)
    (D__law_ring : Def P w K mg base CX0 k "_law_ring" ["_law_box_here", "_law_words_here", "_law_names"] spRing) (D__law_stretched : Def P w K mg base CX0 k "_law_stretched" ["_law_places", "_law_steps", "_law_place", "_law_word_here", "_law_name"] spStretched)
    (D__law_twinned : Def P w K mg base CX0 k "_law_twinned" ["_law_places", "_law_steps", "_law_place", "_law_word_here"] spTwinned) (D__law_detoured : Def P w K mg base CX0 k "_law_detoured" ["_law_places", "_law_steps", "_law_place", "_law_word_here", "_law_names"] spDetoured)
    (F : Src K mg "_law_grown" s__law_grown ["_law_box_here"]) : Def P w K mg base CX0 (k + 1) "_law_grown" ["_law_box_here"] spGRows := by
  refine F.ok sc__law_grown (fun vs H Q E h => ?_) (fun f cdv A outer s H vs Q E hr h => ?_)
  · obtain ⟨b, l, rfl, _⟩ := h
    rfl
  · obtain ⟨b, l, rfl, hb, q⟩ := h
    refine ⟨_, (pss_cons (ps_asg (pe_def D__law_words hr pass0 (pa_cons (pv 0) (pa_cons pe_int pa_nil))) (pg_name (i := 1) sc__law_grown.nd rfl (Or.inl rfl)))
 (pss_cons (ps_asg (pe_def D__law_words hr pass0 (pa_cons (pv 0) (pa_cons pe_int pa_nil))) (pg_name (i := 2) sc__law_grown.nd rfl (Or.inl rfl)))
 (pss_cons (ps_asg (pe_def D__law_ring hr pass0 (pa_cons (pv 0) (pa_cons (pv 1) (pa_cons (pv 2) pa_nil)))) (pg_lst rfl (pgs_cons (pg_name (i := 3) sc__law_grown.nd rfl (Or.inl rfl)) (pgs_cons (pg_name (i := 4) sc__law_grown.nd rfl (Or.inl rfl)) pgs_nil))))
 (pss_cons (ps_for PassesOwn.never rfl (pi_range1 (by rfl) B.range (pa_cons (pe_def D__law_next hr pass0 (pa_cons (pv 0) (pa_cons pe_int pa_nil))) pa_nil)) (pg_name (i := 5) sc__law_grown.nd rfl (Or.inl rfl)) (pss_cons (ps_asg (pe_def D__law_next hr pass0 (pa_cons (pv 0) (pa_cons pe_int pa_nil))) (pg_name (i := 6) sc__law_grown.nd rfl (Or.inl rfl)))
 (pss_cons (ps_asg (pe_ix (kix_tup (K := K)) (pe_ix (kix_list (K := K)) (pv 3) (pe_def D__law_next hr pass0 (pa_cons (pv 0) (pa_cons (pe_callB (kcall_len (K := K)) (by rfl) B.len PySem.boot_len (pa_cons (pv 3) pa_nil)) pa_nil))) (fun _ _ => rfl)) pe_int (fun _ _ => rfl)) (pg_name (i := 7) sc__law_grown.nd rfl (Or.inl rfl)))
 (pss_cons (ps_asg (pe_ix (kix_list (K := K)) (pv 1) (pe_callB (kcall_len (K := K)) (by rfl) B.len PySem.boot_len (pa_cons (pv 3) pa_nil)) (fun _ _ => rfl)) (pg_name (i := 8) sc__law_grown.nd rfl (Or.inl rfl)))
 (pss_cons (ps_asg (pe_slice (ksl_list (K := K)) (pv 2) (po_some (pe_callB (kcall_len (K := K)) (by rfl) B.len PySem.boot_len (pa_cons (pv 4) pa_nil))) po_none) (pg_name (i := 9) sc__law_grown.nd rfl (Or.inl rfl)))
 (pss_one (ps_if (pt_cmpR op_eq (pv 6) pe_int (nomark _)) (pss_one (ps_asg (pe_def D__law_stretched hr pass0 (pa_cons (pv 3) (pa_cons (pv 4) (pa_cons (pv 7) (pa_cons (pv 8) (pa_cons (pe_ix (kix_list (K := K)) (pv 9) pe_int (fun _ _ => rfl)) pa_nil)))))) (pg_lst rfl (pgs_cons (pg_name (i := 3) sc__law_grown.nd rfl (Or.inl rfl)) (pgs_cons (pg_name (i := 4) sc__law_grown.nd rfl (Or.inl rfl)) pgs_nil))))) (pss_one (ps_if (pt_cmpR op_eq (pv 6) pe_int (nomark _)) (pss_one (ps_asg (pe_def D__law_twinned hr pass0 (pa_cons (pv 3) (pa_cons (pv 4) (pa_cons (pv 7) (pa_cons (pv 8) pa_nil))))) (pg_lst rfl (pgs_cons (pg_name (i := 3) sc__law_grown.nd rfl (Or.inl rfl)) (pgs_cons (pg_name (i := 4) sc__law_grown.nd rfl (Or.inl rfl)) pgs_nil))))) (pss_one (ps_if (pt_cmpR op_eq (pv 6) pe_int (nomark _)) (pss_cons (ps_asg (pe_ix (kix_list (K := K)) (pv 4) (pe_def D__law_next hr pass0 (pa_cons (pv 0) (pa_cons (pe_callB (kcall_len (K := K)) (by rfl) B.len PySem.boot_len (pa_cons (pv 4) pa_nil)) pa_nil))) (fun _ _ => rfl)) (pg_name (i := 10) sc__law_grown.nd rfl (Or.inl rfl)))
 (pss_one (ps_asg (pe_op op_cat (pv 4) (pe_lst (pa_cons (pe_tup (pa_cons (pe_ix (kix_list (K := K)) (pv 9) pe_int (fun _ _ => rfl)) (pa_cons (pe_callTy (kcall_list (K := K)) (by rfl) B.list' (by decide +kernel) (pa_cons (pe_ix (kix_tup (K := K)) (pv 10) pe_int (fun _ _ => rfl)) pa_nil)) (pa_cons (pe_callTy (kcall_list (K := K)) (by rfl) B.list' (by decide +kernel) (pa_cons (pe_ix (kix_tup (K := K)) (pv 10) pe_int (fun _ _ => rfl)) pa_nil)) pa_nil)))) pa_nil))) (pg_name (i := 4) sc__law_grown.nd rfl (Or.inl rfl))))) (pss_one (ps_asg (pe_def D__law_detoured hr pass0 (pa_cons (pv 3) (pa_cons (pv 4) (pa_cons (pv 7) (pa_cons (pv 8) (pa_cons (pv 9) pa_nil)))))) (pg_lst rfl (pgs_cons (pg_name (i := 3) sc__law_grown.nd rfl (Or.inl rfl)) (pgs_cons (pg_name (i := 4) sc__law_grown.nd rfl (Or.inl rfl)) pgs_nil))))))))))))))))
 (pss_cons (ps_asg (pe_def D__law_next hr pass0 (pa_cons (pv 0) (pa_cons (pe_callB (kcall_len (K := K)) (by rfl) B.len PySem.boot_len (pa_cons (pv 3) pa_nil)) pa_nil))) (pg_name (i := 11) sc__law_grown.nd rfl (Or.inl rfl)))
 (pss_cons (ps_asg (pe_def D__law_next hr pass0 (pa_cons (pv 0) (pa_cons (pe_callB (kcall_len (K := K)) (by rfl) B.len PySem.boot_len (pa_cons (pv 4) pa_nil)) pa_nil))) (pg_name (i := 12) sc__law_grown.nd rfl (Or.inl rfl)))
 (pss_one (ps_ret (pe_tup (pa_cons (pe_op op_cat (pe_slice (ksl_list (K := K)) (pv 3) (po_some (pv 11)) po_none) (pe_slice (ksl_list (K := K)) (pv 3) po_none (po_some (pv 11)))) (pa_cons (pe_op op_cat (pe_slice (ksl_list (K := K)) (pv 4) (po_some (pv 12)) po_none) (pe_slice (ksl_list (K := K)) (pv 4) po_none (po_some (pv 12)))) pa_nil))))))))))), ?_⟩
    refine ⟨_, rfl, b, l, 7, rfl, by decide, hb, fun W ws H1 wl wn ww nW s1 hW => ?_⟩
    refine ⟨_, rfl, b, l, 13, rfl, by decide, s1.b1, fun N ns H2 nl nn nw nN s2 hN => ?_⟩
    have hW2 := s2.strs hW
    refine ⟨_, rfl, _, rfl, _, rfl, b, l, W, N, ws, ns, rfl, s2.b1, hW2, hN, by omega, by omega, fun p ap as' prs srs H3 gr lp ls s3 hp hP hS => ?_⟩
    refine ⟨p, _, rfl, SqL.of hp, rfl, _, _, rfl, _, _, rfl, rfl, ?_⟩
    have s23 := (s1.trans s2).trans s3
    refine ⟨_, rfl, b, l, 5, rfl, by decide, by decide, s3.b1, fun n4 H4 c0 c1 s4 => ⟨_, rfl, by omega, by omega, for_range (lo := 0) (n := n4.toNat) (fun t σ H' => ∃ (ap as' : Addr) (prs : List (Str × Int)) (srs : List SRow) (y5 y6 y7 y8 y9 y10 : Option V), σ = [some (.ref b), some (.ref W), some (.ref N), some (.ref ap), some (.ref as'), y5, y6, y7, y8, y9, y10, none, none] ∧ GrownR ws ns prs srs ∧ prs.length ≤ 3 + t ∧ srs.length ≤ 3 + 2 * t ∧ Bx b l H H' ∧ H' W = some (.lst (ws.map V.str)) ∧ H' N = some (.lst (ns.map V.str)) ∧ PRows H' ap prs ∧ SRows H' as' srs)
      ⟨ap, as', prs, srs, none, none, none, none, none, none, rfl, gr, by omega, by omega, s23.trans s4, s4.strs (s3.strs hW2), s4.strs (s3.strs hN), hP.bx s4, hS.bx s4⟩ ?_ ?_⟩⟩
    · clear hP hS hp gr lp ls
      rintro t σ H' ht ⟨ap, as', prs, srs, y5, y6, y7, y8, y9, y10, rfl, gr, lp, ls, sm, hW', hN', hP, hS⟩
      have G := gr.grow wn
      obtain ⟨ts, hts, pts⟩ := id hP
      obtain ⟨us, hus, pus⟩ := id hS
      have lts : ts.length = prs.length := Paired.len pts
      have lus : us.length = srs.length := Paired.len pus
      have gp1 := G.p1
      have gs1 := G.s1
      refine ⟨_, rfl, b, l, 4, rfl, by decide, by decide, sm.b1, fun deed H5 d0 d1 s5 => ?_⟩
      have hs5 := s5.refs hts
      have l1 : (ts.map V.ref).length = prs.length := by rw [List.length_map]; exact lts
      have l2 : (us.map V.ref).length = srs.length := by rw [List.length_map]; exact lus
      have lp6 : prs.length ≤ 6 := by omega
      have ls9 : srs.length ≤ 9 := by omega
      -- the place
      refine ⟨_, rfl, _, rfl, _, rfl, ap, _, rfl, .inl (SqL.of hs5), b, l, _, rfl, by rw [l1]; omega, by rw [l1]; exact Int.le_trans (show (prs.length : Int) ≤ 1000 by omega) (by decide), s5.b1, fun m6 H6 e0 e1 s6 => ?_⟩
      rw [l1] at e1
      obtain ⟨j, rfl⟩ : ∃ j : Nat, m6 = j := ⟨m6.toNat, by omega⟩
      have hj : j < prs.length := by omega
      obtain ⟨tj, htj, etj⟩ := Paired.get' pts (List.getElem?_eq_getElem hj)
      have hg : (ts.map V.ref)[j]? = some (.ref tj) := by rw [List.getElem?_map, htj]; rfl
      have s56 := s5.trans s6
      refine ⟨ap, _, _, _, rfl, rfl, SqL.of (s56.refs hts), atI_nat hg, tj, _, _, _, rfl, rfl, SqT.of (s56.tup etj), atI_nat (j := 0) rfl, ?_⟩
      have hpl : prs[j].1 ∈ prs.map (·.1) := List.mem_map.mpr ⟨_, List.getElem_mem hj, rfl⟩
      -- the word, the names
      refine ⟨_, rfl, _, rfl, ap, _, rfl, .inl (SqL.of (s56.refs hts)), W, _, _, _, rfl, rfl, SqL.of (s56.strs hW'), by rw [l1]; exact str_at (by omega), ?_⟩
      have hz : ws[prs.length]? = some (ws.getD prs.length "") := getD_at (by omega)
      refine ⟨_, rfl, _, rfl, as', _, rfl, .inl (SqL.of (s56.refs hus)), _, rfl, N, _, rfl, SqL.of (s56.strs hN'), fun FF nFF => ?_⟩
      rw [l2, cutV_drop, ← List.map_drop]
      have s7 := s56.new (o := .lst ((ns.drop srs.length).map V.str)) nFF
      have sm7 := sm.trans s7
      have hn1 : ns[srs.length]? = some (ns.getD srs.length "") := getD_at (by omega)
      have hn2 : ns[srs.length + 1]? = some (ns.getD (srs.length + 1) "") := getD_at (by omega)
      have hdr : ns.drop srs.length = ns.getD srs.length "" :: ns.getD (srs.length + 1) "" :: ns.drop (srs.length + 1 + 1) := by rw [drop_at hn1, drop_at hn2]
      have hW7 := s7.strs hW'
      have hN7 := s7.strs hN'
      have hP7 := hP.bx s7
      have hS7 := hS.bx s7
      have hFF : (upd H6 FF (.lst ((ns.drop srs.length).map V.str))) FF = some (.lst ((ns.getD srs.length "" :: ns.getD (srs.length + 1) "" :: ns.drop (srs.length + 1 + 1)).map V.str)) := by
        rw [← hdr]
        exact upd_same
      have smr := G.small (by omega) (by omega)
      have gp : ∀ {prs' : List (Str × Int)} {srs' : List SRow} {p2 ap2 as2 : Addr} {H8 : Hp}, GrownR ws ns prs' srs' → prs'.length ≤ 3 + (t + 1) → srs'.length ≤ 3 + 2 * (t + 1) → Same (upd H6 FF (.lst ((ns.drop srs.length).map V.str))) H8 → PRows H8 ap2 prs' → SRows H8 as2 srs' →
          GrownR ws ns prs' srs' ∧ prs'.length ≤ 3 + (t + 1) ∧ srs'.length ≤ 3 + 2 * (t + 1) ∧ Bx b l H H8 ∧ H8 W = some (.lst (ws.map V.str)) ∧ H8 N = some (.lst (ns.map V.str)) ∧ PRows H8 ap2 prs' ∧ SRows H8 as2 srs' := fun g h1 h2 s8 h3 h4 => ⟨g, h1, h2, sm7.same s8, s8 _ _ hW7, s8 _ _ hN7, h3, h4⟩
      refine ⟨_, rfl, rfl, _, rfl, ?_⟩
      refine ite2 (fun h1 => ?_) (fun h1 => ?_)
      · refine ⟨_, rfl, _, rfl, _, rfl, _, rfl, _, rfl, FF, _, _, _, rfl, rfl, SqL.of hFF, atI_nat (j := 0) rfl, ap, as', prs, srs, _, _, _, rfl, hP7, hS7, smr, fun p2 ap2 as2 H8 s8 hp2 h2 h3 => ?_⟩
        refine ⟨p2, _, rfl, SqL.of hp2, rfl, _, _, rfl, _, _, rfl, rfl, ?_⟩
        refine ⟨ap2, as2, _, _, _, _, _, _, _, _, rfl, gp (p2 := p2) (.stretch gr hpl hz hn1) ?_ ?_ s8 h2 h3⟩
        · rw [List.length_append]
          show _ + 1 ≤ _
          omega
        · unfold stretchS
          rw [List.length_append, List.length_map]
          show _ + 1 ≤ _
          omega
      · refine ⟨_, rfl, rfl, _, rfl, ?_⟩
        refine ite2 (fun h2 => ?_) (fun h2 => ?_)
        · refine ⟨_, rfl, _, rfl, _, rfl, _, rfl, ap, as', prs, srs, _, _, rfl, hP7, hS7, smr, hpl, fun p2 ap2 as2 num H8 hm s8 hp2 h3 h4 => ?_⟩
          refine ⟨p2, _, rfl, SqL.of hp2, rfl, _, _, rfl, _, _, rfl, rfl, ?_⟩
          refine ⟨ap2, as2, _, _, _, _, _, _, _, _, rfl, gp (p2 := p2) (.twin gr hm hz) ?_ ?_ s8 h3 h4⟩
          · rw [List.length_append]
            show _ + 1 ≤ _
            omega
          · unfold twinS
            rw [List.length_map]
            omega
        · refine ⟨_, rfl, rfl, _, rfl, ?_⟩
          refine ite2 (fun h3 => ?_) (fun h3 => ?_)
          · have hu7 := s7.refs hus
            refine ⟨_, rfl, _, rfl, _, rfl, as', _, rfl, .inl (SqL.of hu7), b, l, _, rfl, by rw [l2]; omega, by rw [l2]; exact Int.le_trans (show (srs.length : Int) ≤ 1000 by omega) (by decide), s7.b1, fun m8 H8 f0 f1 s8 => ?_⟩
            rw [l2] at f1
            obtain ⟨jj, rfl⟩ : ∃ j : Nat, m8 = j := ⟨m8.toNat, by omega⟩
            have hjj : jj < srs.length := by omega
            obtain ⟨tr, htr, b1, c1, er1, er2, er3, en1, en2⟩ := Paired.get' pus (List.getElem?_eq_getElem hjj)
            have hg2 : (us.map V.ref)[jj]? = some (.ref tr) := by rw [List.getElem?_map, htr]; rfl
            have s78 := s7.trans s8
            refine ⟨as', _, _, _, rfl, rfl, SqL.of (s78.refs hus), atI_nat hg2, ?_⟩
            refine ⟨_, rfl, _, rfl, FF, _, _, _, rfl, rfl, SqL.of (s8.strs hFF), atI_nat (j := 0) rfl, _, rfl, tr, _, _, _, rfl, rfl, SqT.of (s78.tup er1), atI_nat (j := 1) rfl, b1, _, rfl, .inl (SqL.of (s78.strs er2)), fun m1 nm1 => ?_⟩
            have u1 := same_upd (o := .lst (srs[jj].2.1.map V.str)) nm1
            refine ⟨_, rfl, tr, _, _, _, rfl, rfl, SqT.of (u1 _ _ (s78.tup er1)), atI_nat (j := 2) rfl, c1, _, rfl, .inl (SqL.of (u1 _ _ (s78.strs er3))), fun m2 nm2 => ?_⟩
            have u2 := same_upd (o := .lst (srs[jj].2.2.map V.str)) nm2
            refine ⟨by show 3 ≤ sizeLine; decide, fun m3 nm3 => ?_⟩
            have u3 := same_upd (o := .tup [.str (ns.getD srs.length ""), .ref m1, .ref m2]) nm3
            refine ⟨by show 1 ≤ sizeLine; decide, fun m4 nm4 => ?_⟩
            have u4 := same_upd (o := .lst [.ref m3]) nm4
            have s84 := (s78.same ((u1.trans u2).trans u3)).same u4
            refine ⟨as', m4, _, _, rfl, rfl, s84.refs hus, upd_same, by rw [l2]; exact Nat.le_trans (show srs.length + 1 ≤ 1000 by omega) (by decide), fun m5 nm5 => ?_⟩
            have u5 := same_upd (o := .lst (us.map V.ref ++ [.ref m3])) nm5
            have s85 := s84.same u5
            have r1 : SRowIn _ m4 m3 (ns.getD srs.length "", srs[jj].2.1, srs[jj].2.2) := ⟨m1, m2, u4 _ _ upd_same, ((u2.trans u3).trans u4) _ _ upd_same, (u3.trans u4) _ _ upd_same, ne_of_none ((u2.trans u3) m1 _ upd_same) nm4, ne_of_none (u3 m2 _ upd_same) nm4⟩
            refine ⟨ap, m5, prs, _, _, _, _, _, _, _, rfl, .copy gr (List.getElem_mem hjj) hn1, by omega, ?_, sm.trans s85, s85.strs hW', s85.strs hN', hP.bx s85, SRows.cat (a := as') (c := m4) (us := [m3]) (qrs := [(ns.getD srs.length "", srs[jj].2.1, srs[jj].2.2)]) (Paired.imp2 (fun _ _ ⟨x, y, h3, h4, h5, u⟩ => ⟨x, y, s84.tup h3, s84.strs h4, s84.strs h5, u⟩) pus) (.cons r1 .nil) u5 nm5 upd_same⟩
            rw [List.length_append]
            show _ + 1 ≤ _
            omega
          · refine ⟨_, rfl, _, rfl, _, rfl, _, rfl, _, rfl, ap, as', FF, prs, srs, _, _, _, _, _, rfl, hP7, hS7, hFF, smr, G.asc ww nw, hpl, fun p2 ap2 as2 num H8 hm s8 hp2 h3 h4 => ?_, fun hno p2 ap2 as2 H8 s8 hp2 h3 h4 => ?_⟩
            · refine ⟨p2, _, rfl, SqL.of hp2, rfl, _, _, rfl, _, _, rfl, rfl, ?_⟩
              refine ⟨ap2, as2, _, _, _, _, _, _, _, _, rfl, gp (p2 := p2) (.twin gr hm hz) ?_ ?_ s8 h3 h4⟩
              · rw [List.length_append]
                show _ + 1 ≤ _
                omega
              · unfold twinS
                rw [List.length_map]
                omega
            · refine ⟨p2, _, rfl, SqL.of hp2, rfl, _, _, rfl, _, _, rfl, rfl, ?_⟩
              refine ⟨ap2, as2, _, _, _, _, _, _, _, _, rfl, gp (p2 := p2) (.detour gr hno hpl hz hn1 hn2) ?_ ?_ s8 h3 h4⟩
              · rw [List.length_append]
                show _ + 1 ≤ _
                omega
              · unfold detourS
                rw [List.length_append]
                show _ + 2 ≤ _
                omega
    · clear hP hS hp gr lp ls
      rintro σ H' ⟨ap, as', prs, srs, y5, y6, y7, y8, y9, y10, rfl, gr, lp, ls, sm, hW', hN', hP, hS⟩
      have G := gr.grow wn
      obtain ⟨ts, hts, pts⟩ := id hP
      obtain ⟨us, hus, pus⟩ := id hS
      have l1 : (ts.map V.ref).length = prs.length := by rw [List.length_map]; exact Paired.len pts
      have l2 : (us.map V.ref).length = srs.length := by rw [List.length_map]; exact Paired.len pus
      have gp1 := G.p1
      have gs1 := G.s1
      refine ⟨_, rfl, _, rfl, ap, _, rfl, .inl (SqL.of hts), b, l, _, rfl, by rw [l1]; omega, by rw [l1]; exact Int.le_trans (show (prs.length : Int) ≤ 1000 by omega) (by decide), sm.b1, fun m6 H6 e0 e1 s6 => ?_⟩
      refine ⟨_, rfl, _, rfl, as', _, rfl, .inl (SqL.of (s6.refs hus)), b, l, _, rfl, by rw [l2]; omega, by rw [l2]; exact Int.le_trans (show (srs.length : Int) ≤ 1000 by omega) (by decide), s6.b1, fun m7 H7 f0 f1 s7 => ?_⟩
      obtain ⟨i, rfl⟩ : ∃ j : Nat, m6 = j := ⟨m6.toNat, by omega⟩
      obtain ⟨j, rfl⟩ : ∃ j : Nat, m7 = j := ⟨m7.toNat, by omega⟩
      have s67 := s6.trans s7
      refine ⟨_, rfl, _, rfl, _, rfl, ap, _, rfl, SqL.of (s67.refs hts), fun p1 np1 => ?_⟩
      rw [cutV_drop, ← List.map_drop]
      have u1 := same_upd (o := .lst ((ts.drop i).map V.ref)) np1
      refine ⟨_, rfl, _, rfl, _, rfl, ap, _, rfl, SqL.of (u1 _ _ (s67.refs hts)), fun p2 np2 => ?_⟩
      rw [cutV_take, ← List.map_take]
      have u2 := same_upd (o := .lst ((ts.take i).map V.ref)) np2
      refine ⟨p1, p2, _, _, rfl, rfl, u2 _ _ upd_same, upd_same, ?_, fun p3 np3 => ?_⟩
      · rw [List.length_map, List.length_map, List.length_drop, List.length_take]
        rw [List.length_map] at l1
        exact Nat.le_trans (show _ ≤ 1000 by omega) (by decide)
      have u3 := same_upd (o := .lst ((ts.drop i).map V.ref ++ (ts.take i).map V.ref)) np3
      have s68 := (s67.same (u1.trans u2)).same u3
      refine ⟨_, rfl, _, rfl, _, rfl, as', _, rfl, SqL.of (s68.refs hus), fun p4 np4 => ?_⟩
      rw [cutV_drop, ← List.map_drop]
      have u4 := same_upd (o := .lst ((us.drop j).map V.ref)) np4
      refine ⟨_, rfl, _, rfl, _, rfl, as', _, rfl, SqL.of (u4 _ _ (s68.refs hus)), fun p5 np5 => ?_⟩
      rw [cutV_take, ← List.map_take]
      have u5 := same_upd (o := .lst ((us.take j).map V.ref)) np5
      refine ⟨p4, p5, _, _, rfl, rfl, u5 _ _ upd_same, upd_same, ?_, fun p6 np6 => ?_⟩
      · rw [List.length_map, List.length_map, List.length_drop, List.length_take]
        rw [List.length_map] at l2
        exact Nat.le_trans (show _ ≤ 1000 by omega) (by decide)
      have u6 := same_upd (o := .lst ((us.drop j).map V.ref ++ (us.take j).map V.ref)) np6
      refine ⟨by show 2 ≤ sizeLine; decide, fun p7 np7 => ?_⟩
      have u7 := same_upd (o := .tup [.ref p3, .ref p6]) np7
      have s69 := s68.same (u4.trans u5)
      have s6f := (s69.same u6).same u7
      have bP := Paired.imp2 (fun _ _ h => (s67.same (u1.trans u2)).tup h) pts
      have bS : Paired (SRowIn _ as') us srs := Paired.imp2 (fun _ _ ⟨x, y, h3, h4, h5, u⟩ => ⟨x, y, s69.tup h3, s69.strs h4, s69.strs h5, u⟩) pus
      refine q p7 p3 p6 (prs.drop i ++ prs.take i) (srs.drop j ++ srs.take j) _ (sm.trans s6f) upd_same ?_ ?_ (G.good wn nn ww nw (by omega) (by omega) (perm_rot _ _) (perm_rot _ _))
      · exact (PRows.cat (a := ap) (Paired.drop i bP) (Paired.take i bP) u3 upd_same).keep (((u4.trans u5).trans u6).trans u7)
      · exact (SRows.cat (a := as') (c := as') (Paired.drop j bS) (Paired.take j bS) u6 np6 upd_same).keep u7
end

/-! ## plan -/
section
variable {P : Program} {w : World} {K : PySem.W.Frag} {mg : Str → Option Value} {base : Heap}
abbrev s_in_order : Stmt := topS 25
theorem sc_in_order : FnScope ["names", "places", "known", "place"] ["names", "places"] (defScope s_in_order) := ⟨rfl, rfl, rfl, by decide +kernel, rfl, by decide +kernel, by decide +kernel⟩
def spInOrder (K : PySem.W.Frag) (cs : ECs) : Sp := fun vs H Q E => ∃ (a c : Addr) (ws ks : List Str), vs = [.ref a, .ref c] ∧ SqL K H a (ws.map V.str) ∧ SqT K H c (ks.map V.str) ∧ ws.length ≤ 1000 ∧ ks.length ≤ 1000 ∧
  (chk ks [] ws = none → ∀ (p : Addr) (H' : Hp), H p = none → Same H H' → H' p = some (.tup ((inOrd ks ws).map V.str)) → Q (.ref p) H') ∧ (∀ x, chk ks [] ws = some x → RaisP cs E H (nameErr x))
theorem ok_in_order {k : Nat} {cs : ECs} (B : Bl mg) (D_check_names : Def P w K mg base (L2.CX P w) k "check_names" ["names", "known"] (spCheckNames K cs.unknown cs.double))
    (F : Src K mg "in_order" s_in_order ["names", "places"]) : Def P w K mg base (L2.CX P w) (k + 1) "in_order" ["names", "places"] (spInOrder K cs) := by
  refine F.okX sc_in_order (fun vs H Q E h => ?_) (fun f cdv A outer s H vs Q E hr h => ?_)
  · obtain ⟨a, c, ws, ks, rfl, _⟩ := h
    rfl
  · obtain ⟨a, c, ws, ks, rfl, ha, hc, hl1, hl2, q1, q2⟩ := h
    refine ⟨_, (pss_cons (ps_asg (pe_def D_check_names hr (passes_call (takes_of rfl rfl rfl rfl) (fun _ _ _ _ h => h)) (pa_cons (pv 0) (pa_cons (pv 1) pa_nil))) (pg_name (i := 2) sc_in_order.nd rfl (Or.inr rfl)))
 (pss_one (ps_ret (pe_callTy (kcall_tuple (K := K)) (by rfl) B.tuple' (by decide +kernel) (pa_cons (pe_lc (own := [("place", 3)]) (g := gName 3) (by rfl) sc_in_order.nd (kpi_tup (K := K) (pv 1)) (blkOk_by (N := ["names", "places", "known", "place"]) (sc := defScope s_in_order) (by decide +kernel)) (fun _ _ _ _ _ => (pg_name (i := 3) sc_in_order.nd rfl (Or.inl rfl))) (fun _ _ _ _ _ => pts_one (pt_cmpR (kop_in (K := K)) (pv 3) (pv 2) rfl)) (fun _ _ _ _ _ => (pv 3))) pa_nil))))), ?_⟩
    refine ⟨_, rfl, _, rfl, a, c, ws, ks, rfl, ha, .inr hc, hl1, fun hk p H1 np s1 hp => ?_, fun n hk => q2 _ hk, fun n hk => q2 _ hk⟩
    refine ⟨_, rfl, c, rfl, ⟨_, s1.seqT hc⟩, fun D nD => lc_tup (K := K) (a := c) (xs := ks.map V.str) (fun i H' => Same H1 H' ∧ H' D = some (.lst ((inOrd (ks.take i) ws).map V.str))) ⟨same_upd nD, upd_same⟩ (fun i H' _ h' => (s1.trans h'.1).seqT hc) ?_ ?_⟩
    · rintro i x H' hi ⟨sm, hD⟩
      obtain ⟨n, hn, rfl⟩ := map_get hi
      have ht : inOrd (ks.take (i + 1)) ws = inOrd (ks.take i) ws ++ if n ∈ ws then [n] else [] := by
        unfold inOrd
        rw [take_more hn, List.filter_append]
        by_cases h : n ∈ ws <;> simp [List.filter, h]
      refine ⟨rfl, _, rfl, _, rfl, p, _, rfl, .inr (SqT.of (sm _ _ hp)), rfl, flat_strs _, _, rfl, ?_⟩
      rw [inV_strs]
      refine ite2 (fun h1 => ?_) (fun h1 => ?_)
      · have h1 : n ∈ ws := by simpa using h1
        refine ⟨_, rfl, _, hD, ?_, fun b o e => ?_, ?_⟩
        · rw [List.length_map]
          refine small1000 (Nat.le_trans (List.length_filter_le _ _) ?_)
          rw [List.length_take]
          omega
        · rw [upd_ne (ne_of_none e nD)]
          exact sm b o e
        · rw [upd_same, ht, if_pos h1, List.map_append]
          rfl
      · have h1 : n ∉ ws := by simpa using h1
        refine ⟨sm, ?_⟩
        rw [ht, if_neg h1, List.append_nil]
        exact hD
    · rintro H' ⟨sm, hD⟩
      rw [List.length_map, List.take_length] at hD
      refine ⟨D, _, rfl, .inl ⟨SqL.of hD, fun l hl => ?_⟩⟩
      have sm2 := (s1.trans sm).trans (same_upd (o := .tup ((inOrd ks ws).map V.str)) hl)
      exact q1 hk l _ ((s1.trans sm).free hl) sm2 upd_same
/-- what the written part says of the class Plan -/
structure PlanC (K : PySem.W.Frag) (mg : Str → Option Value) (C : Addr) : Prop where
  cl : Cls K C
  gC : mg "Plan" = some (.ref C)
  nP : NoAttr K C "places"
  nB : NoAttr K C "begin"
  nT : NoAttr K C "taken"
  nG : NoAttr K C "given"
  nS : NoAttr K C "steps"
abbrev tRows (ss : List SRow) : List (Str × List Str) := ss.map fun s => (s.1, s.2.1)
abbrev gRows (ss : List SRow) : List (Str × List Str) := ss.map fun s => (s.1, s.2.2)
/-- a plan that is being built: the steps ss are in it -/
structure HalfAt (H : Hp) (C x dx tp tb td tg : Addr) (pl : List Str) (bg : List Int) (ss : List SRow) : Prop where
  hx : H x = some (.ins C dx [("places", .ref tp), ("begin", .ref tb), ("taken", .ref td), ("given", .ref tg)])
  hp : H tp = some (.tup (pl.map V.str))
  hb : H tb = some (.tup (bg.map V.int))
  ne : td ≠ tg
  tabs : ∃ kt kg, H td = some (.dK kt) ∧ H tg = some (.dK kg) ∧ TabAt H kt (tRows ss) ∧ TabAt H kg (gRows ss)
/-- only td and tg may have changed -/
def Same2 (td tg : Addr) (H H' : Hp) : Prop := ∀ a o, a ≠ td → a ≠ tg → H a = some o → H' a = some o
def ordRow (pl : List Str) (r : SRow) : SRow := (r.1, inOrd pl r.2.1, inOrd pl r.2.2)
def SRowAt (K : PySem.W.Frag) (H : Hp) (a b : Addr) (r : SRow) : Prop := SqL K H a (r.2.1.map V.str) ∧ SqL K H b (r.2.2.map V.str) ∧ r.1.length ≤ 1000 ∧ r.2.1.length ≤ 1000 ∧ r.2.2.length ≤ 1000
abbrev s_Plan_put_step : Stmt := inClass (topS 26) 1
theorem sc_Plan_put_step : FnScope ["self", "word", "takes", "gives", "taken"] ["self", "word", "takes", "gives"] (defScope s_Plan_put_step) := ⟨rfl, rfl, rfl, by decide +kernel, rfl, by decide +kernel, by decide +kernel⟩
def spPut (K : PySem.W.Frag) (cs : ECs) (C : Addr) : Sp := fun vs H Q E => ∃ (x dx tp tb td tg a b : Addr) (pl : List Str) (bg : List Int) (ss : List SRow) (r : SRow), vs = [.ref x, .str r.1, .ref a, .ref b] ∧ HalfAt H C x dx tp tb td tg pl bg ss ∧ SRowAt K H a b r ∧ pl.length ≤ 12 ∧ ss.length ≤ 16 ∧
  (stepDue pl (ss.map (·.1)) r = none → ∀ H' : Hp, Same2 td tg H H' → HalfAt H' C x dx tp tb td tg pl bg (ss ++ [ordRow pl r]) → Q .non H') ∧ (∀ e, stepDue pl (ss.map (·.1)) r = some e → RaisP cs E H e)
theorem tRows_names (ss : List SRow) : (tRows ss).map (·.1) = ss.map (·.1) := by
  rw [List.map_map]
  rfl
theorem gRows_names (ss : List SRow) : (gRows ss).map (·.1) = ss.map (·.1) := by
  rw [List.map_map]
  rfl
theorem TabAt.len {H : Hp} {kvs : List (Key × V)} {rows : List (Str × List Str)} (h : TabAt H kvs rows) : kvs.length = rows.length := Paired.len h
theorem ok_put_step {k : Nat} {cs : ECs} {C f_BadWord f_DoubleName f_EmptyStep : Addr} (B : Bl mg) (T_Plan : PlanC K mg C) (X_DoubleName : ErrTxt P K mg false "DoubleName" cs.double f_DoubleName ["name"]) (X_EmptyStep : ErrTxt P K mg false "EmptyStep" cs.empty f_EmptyStep ["name"])
    (D_check_word : Def P w K mg base (L2.CX P w) k "check_word" ["word"] (spCheckWord cs.badWord)) (D_in_order : Def P w K mg base (L2.CX P w) k "in_order" ["names", "places"] (spInOrder K cs))
    (F : SrcM K C "put_step" "Plan.put_step" s_Plan_put_step ["self", "word", "takes", "gives"]) : DefM P w K mg base (L2.CX P w) (k + 1) C "put_step" ["self", "word", "takes", "gives"] (spPut K cs C) := by
  refine F.okX sc_Plan_put_step (fun vs H Q E h => ?_) (fun f cdv A outer s H vs Q E hr h => ?_)
  · obtain ⟨x, dx, tp, tb, td, tg, a, b, pl, bg, ss, r, rfl, _⟩ := h
    rfl
  · obtain ⟨x, dx, tp, tb, td, tg, a, b, pl, bg, ss, r, rfl, hh, ⟨ha, hb, hr1, hr2, hr3⟩, hpl, hss, q1, q2⟩ := h
    obtain ⟨kt, kg, htd, htg, tt, tgg⟩ := hh.tabs
    have hr1' : r.1.length ≤ sizeLine := Nat.le_trans hr1 (by decide)
    refine ⟨_, (pss_cons (ps_expr (pe_def D_check_word hr (passes_call (takes_of rfl rfl rfl rfl) (fun _ _ _ _ h => h)) (pa_cons (pv 1) pa_nil)))
 (pss_cons (ps_if (pt_cmp (pc_din (hu_of hr) (pv 1) (kpe_fld (K := K) (pv 0)))) (pss_one (ps_raiseE rfl X_DoubleName hr (takes_of rfl rfl rfl rfl) (pa_cons (pv 1) pa_nil))) pss_nil)
 (pss_cons (ps_if (pt_cmpR op_eq (pe_callB (kcall_len (K := K)) (by rfl) B.len PySem.boot_len (pa_cons (pv 2) pa_nil)) pe_int (nomark _)) (pss_one (ps_raiseE rfl X_EmptyStep hr (takes_of rfl rfl rfl rfl) (pa_cons (pv 1) pa_nil))) pss_nil)
 (pss_cons (ps_asg (pe_def D_in_order hr (passes_call (takes_of rfl rfl rfl rfl) (fun _ _ _ _ h => h)) (pa_cons (pv 2) (pa_cons (kpe_fld (K := K) (pv 0)) pa_nil))) (pg_name (i := 4) sc_Plan_put_step.nd rfl (Or.inl rfl)))
 (pss_cons (ps_dput (hu_of hr) (kpe_fld (K := K) (pv 0)) (pv 1) (pe_def D_in_order hr (passes_call (takes_of rfl rfl rfl rfl) (fun _ _ _ _ h => h)) (pa_cons (pv 3) (pa_cons (kpe_fld (K := K) (pv 0)) pa_nil))) rfl)
 (pss_one (ps_dput (hu_of hr) (kpe_fld (K := K) (pv 0)) (pv 1) (pv 4) rfl))))))), ?_⟩
    unfold stepDue at q1 q2
    refine ⟨_, rfl, r.1, rfl, hr1', fun hw H1 s1 => ?_, fun hw => ?_⟩
    · rw [if_pos hw] at q1 q2
      -- word in self.taken
      refine ⟨_, rfl, _, rfl, x, C, dx, _, _, rfl, s1 _ _ hh.hx, T_Plan.cl, T_Plan.nT, rfl, td, _, rfl, DGet.k (k := Sum.inr r.1) (s1 _ _ htd), _, rfl, ?_⟩
      obtain ⟨v1, v2⟩ := valV_tab tt r.1
      rw [tRows_names] at v1 v2
      by_cases hin : r.1 ∈ ss.map (·.1)
      · obtain ⟨t, l, e, _⟩ := v1 hin
        rw [if_pos hin] at q2
        rw [e]
        exact iteT ⟨_, rfl, rfl, (fun e => by cases e), fun d hd => (q2 _ rfl).go s1 hd⟩
      · rw [if_neg hin] at q1 q2
        rw [v2 hin]
        refine iteF ?_
        -- len(takes) == 0
        refine ⟨_, rfl, a, _, rfl, .inl (s1.seq ha), rfl, _, rfl, ?_⟩
        refine ite2 (fun h1 => ?_) (fun h1 => ?_)
        · have h1 : r.2.1 = [] := by
            have h1 : V.int ((r.2.1.map V.str).length : Int) = V.int 0 := of_decide_eq_true h1
            have h1 : ((r.2.1.map V.str).length : Int) = 0 := V.int.inj h1
            rw [List.length_map] at h1
            exact List.length_eq_zero_iff.mp (by omega)
          rw [if_pos h1] at q2
          exact ⟨_, rfl, rfl, (fun e => by cases e), fun d hd => (q2 _ rfl).go s1 hd⟩
        · have h1 : r.2.1 ≠ [] := fun e => by
            apply h1
            rw [e]
            decide
          rw [if_neg h1] at q1 q2
          -- taken = in_order(takes, self.places)
          refine ⟨_, rfl, _, rfl, x, C, dx, _, _, rfl, s1 _ _ hh.hx, T_Plan.cl, T_Plan.nP, rfl, a, tp, r.2.1, pl, rfl, s1.seq ha, SqT.of (s1 _ _ hh.hp), hr2, by omega, fun hk p H2 np s2 hp => ?_, fun y hk => ?_⟩
          · rw [hk] at q1 q2
            have s12 := s1.trans s2
            refine ⟨_, rfl, _, rfl, x, C, dx, _, _, rfl, s12 _ _ hh.hx, T_Plan.cl, T_Plan.nP, rfl, b, tp, r.2.2, pl, rfl, s12.seq hb, SqT.of (s12 _ _ hh.hp), hr3, by omega, fun hk2 p2 H3 np2 s3 hp2 => ?_, fun y hk2 => ?_⟩
            · rw [hk2] at q1
              have s13 := s12.trans s3
              -- self.given[word] = ..
              have ntd := hh.ne
              have g3 : H3 tg = some (.dK kg) := s13 _ _ htg
              have t3 : H3 td = some (.dK kt) := s13 _ _ htd
              have x3 := s13 _ _ hh.hx
              obtain ⟨w1, w2⟩ := valV_tab tgg r.1
              rw [gRows_names] at w1 w2
              have lk : kt.length < sizeLine := by
                rw [TabAt.len tt, List.length_map]
                exact small1000 (by omega)
              have lg : kg.length < sizeLine := by
                rw [TabAt.len tgg, List.length_map]
                exact small1000 (by omega)
              refine ⟨_, rfl, x, C, dx, _, _, rfl, x3, T_Plan.cl, T_Plan.nG, rfl, _, rfl, tg, _, rfl, DPut.k (k := Sum.inr r.1) g3 lg, ?_⟩
              rw [putK_new _ (w2 hin)]
              have nxg : x ≠ tg := fun e => by rw [e, g3] at x3; cases x3
              have nxt : x ≠ td := fun e => by rw [e, t3] at x3; cases x3
              refine ⟨_, rfl, _, rfl, x, C, dx, _, _, rfl, by rw [upd_ne nxg]; exact x3, T_Plan.cl, T_Plan.nT, rfl, _, rfl, td, _, rfl, DPut.k (k := Sum.inr r.1) (by rw [upd_ne ntd]; exact t3) lk, ?_⟩
              rw [putK_new _ (v2 hin)]
              have kp : ∀ c o, c ≠ td → c ≠ tg → H3 c = some o → (upd (upd H3 tg (.dK (kg ++ [(Sum.inr r.1, .ref p2)]))) td (.dK (kt ++ [(Sum.inr r.1, .ref p)]))) c = some o := fun c o h1 h2 e => by
                rw [upd_ne h1, upd_ne h2]
                exact e
              have ktup : ∀ c l, H3 c = some (.tup l) → (upd (upd H3 tg (.dK (kg ++ [(Sum.inr r.1, .ref p2)]))) td (.dK (kt ++ [(Sum.inr r.1, .ref p)]))) c = some (.tup l) := fun c l e =>
                kp c _ (fun z => by rw [z, t3] at e; cases e) (fun z => by rw [z, g3] at e; cases e) e
              refine q1 rfl _ (fun c o h1 h2 e => kp c o h1 h2 (s13 _ _ e)) ⟨?_, ?_, ?_, ntd, _, _, upd_same, by rw [upd_ne (Ne.symm ntd)]; exact upd_same, ?_, ?_⟩
              · exact kp _ _ nxt nxg x3
              · exact ktup _ _ (s13 _ _ hh.hp)
              · exact ktup _ _ (s13 _ _ hh.hb)
              · show TabAt _ _ ((ss ++ [ordRow pl r]).map fun s => (s.1, s.2.1))
                rw [List.map_append]
                exact Paired.snoc ⟨rfl, p, rfl, ktup _ _ (s3 _ _ hp)⟩ (tt.keep fun t l e => ktup _ _ (s13 _ _ e))
              · show TabAt _ _ ((ss ++ [ordRow pl r]).map fun s => (s.1, s.2.2))
                rw [List.map_append]
                exact Paired.snoc ⟨rfl, p2, rfl, ktup _ _ hp2⟩ (tgg.keep fun t l e => ktup _ _ (s13 _ _ e))
            · rw [hk2] at q2
              intro H' d sm nd hd
              exact q2 _ rfl H' d (s12.trans sm) (s12.free nd) hd
          · rw [hk] at q2
            intro H' d sm nd hd
            exact q2 _ rfl H' d (s1.trans sm) (s1.free nd) hd
    · rw [if_neg (by rw [hw]; exact Bool.false_ne_true)] at q2
      exact q2 _ rfl
abbrev s_Plan___init__ : Stmt := inClass (topS 26) 0
theorem sc_Plan___init__ : FnScope ["self", "places", "steps", "words", "numbers", "word", "number", "takes", "gives"] ["self", "places", "steps"] (defScope s_Plan___init__) := ⟨rfl, rfl, rfl, by decide +kernel, rfl, by decide +kernel, by decide +kernel⟩
def PRowsOk (prs : List (Str × Int)) : Prop := ∀ r ∈ prs, r.1.length ≤ 1000
def SRowsOk (srs : List SRow) : Prop := ∀ r ∈ srs, r.1.length ≤ 1000 ∧ r.2.1.length ≤ 1000 ∧ r.2.2.length ≤ 1000
def spInit (K : PySem.W.Frag) (cs : ECs) (C : Addr) : Sp := fun vs H Q E => ∃ (x dx ap as' : Addr) (prs : List (Str × Int)) (srs : List SRow), vs = [.ref x, .ref ap, .ref as'] ∧ H x = some (.ins C dx []) ∧ PRows H ap prs ∧ SRows H as' srs ∧ PRowsOk prs ∧ SRowsOk srs ∧
  (planDue prs srs = none → ∀ H' : Hp, SameB x H H' → PlanAt H' C x (planOf prs srs) → Q .non H') ∧ (∀ e, planDue prs srs = some e → RaisX cs E x H e)
theorem ok_plan_init {k : Nat} {cs : ECs} {C f_TooMany f_DoubleName : Addr} (B : Bl mg) (T_Plan : PlanC K mg C) (g_MOST_PLACES : Glo mg "MOST_PLACES" (.int 12)) (g_MOST_STEPS : Glo mg "MOST_STEPS" (.int 16)) (g_MOST_BEGIN : Glo mg "MOST_BEGIN" (.int 99))
    (X_TooMany : ErrTxt P K mg true "TooMany" cs.tooMany f_TooMany ["kind", "limit"]) (X_DoubleName : ErrTxt P K mg false "DoubleName" cs.double f_DoubleName ["name"])
    (D_check_word : Def P w K mg base (L2.CX P w) k "check_word" ["word"] (spCheckWord cs.badWord)) (D_check_number : Def P w K mg base (L2.CX P w) k "check_number" ["number", "least", "most"] (spCheckNumber cs.badNumber))
    (DM_Plan_put_step : DefM P w K mg base (L2.CX P w) k C "put_step" ["self", "word", "takes", "gives"] (spPut K cs C))
    (F : SrcI K C "Plan.__init__" s_Plan___init__ ["self", "places", "steps"]) : DefI P w K mg base (L2.CX P w) (k + 1) C ["self", "places", "steps"] (spInit K cs C) := by
  refine F.okX sc_Plan___init__ (fun vs H Q E h => ?_) (fun f cdv A outer s H vs Q E hr h => ?_)
  · obtain ⟨x, dx, ap, as', prs, srs, rfl, _⟩ := h
    rfl
  · obtain ⟨x, dx, ap, as', prs, srs, rfl, hx, hP, hS, okP, okS, q1, q2⟩ := h
    obtain ⟨ta, hpa, pP⟩ := hP
    obtain ⟨sa, hsa, pS⟩ := hS
    have lP : ta.length = prs.length := Paired.len pP
    have lS : sa.length = srs.length := Paired.len pS
    refine ⟨_, (pss_cons (ps_if (pt_cmpR op_gt (pe_callB (kcall_len (K := K)) (by rfl) B.len PySem.boot_len (pa_cons (pv 1) pa_nil)) (pe_glo g_MOST_PLACES) (nomark _)) (pss_one (ps_raiseE rfl X_TooMany hr (takes_of rfl rfl rfl rfl) (pa_cons pe_str (pa_cons (pe_glo g_MOST_PLACES) pa_nil)))) pss_nil)
 (pss_cons (ps_if (pt_cmpR op_gt (pe_callB (kcall_len (K := K)) (by rfl) B.len PySem.boot_len (pa_cons (pv 2) pa_nil)) (pe_glo g_MOST_STEPS) (nomark _)) (pss_one (ps_raiseE rfl X_TooMany hr (takes_of rfl rfl rfl rfl) (pa_cons pe_str (pa_cons (pe_glo g_MOST_STEPS) pa_nil)))) pss_nil)
 (pss_cons (ps_asg (pe_lst pa_nil) (pg_name (i := 3) sc_Plan___init__.nd rfl (Or.inl rfl)))
 (pss_cons (ps_asg (pe_lst pa_nil) (pg_name (i := 4) sc_Plan___init__.nd rfl (Or.inl rfl)))
 (pss_cons (ps_for (passes_of rfl) rfl (kpi_list (K := K) (pv 1)) (pg_tup rfl (pgs_cons (pg_name (i := 5) sc_Plan___init__.nd rfl (Or.inl rfl)) (pgs_cons (pg_name (i := 6) sc_Plan___init__.nd rfl (Or.inl rfl)) pgs_nil))) (pss_cons (ps_expr (pe_def D_check_word hr (passes_call (takes_of rfl rfl rfl rfl) (fun _ _ _ _ h => h)) (pa_cons (pv 5) pa_nil)))
 (pss_cons (ps_if (pt_cmpR (kop_in (K := K)) (pv 5) (pv 3) rfl) (pss_one (ps_raiseE rfl X_DoubleName hr (takes_of rfl rfl rfl rfl) (pa_cons (pv 5) pa_nil))) pss_nil)
 (pss_cons (ps_expr (pe_bm PySem.F.plainAttrs_list PySem.F.slot_list_append PySem.F.type_list_append mt_append (pv 4) (pa_cons (pe_def D_check_number hr (passes_call (takes_of rfl rfl rfl rfl) (fun _ _ _ _ h => h)) (pa_cons (pv 6) (pa_cons pe_int (pa_cons (pe_glo g_MOST_BEGIN) pa_nil)))) pa_nil)))
 (pss_one (ps_expr (pe_bm PySem.F.plainAttrs_list PySem.F.slot_list_append PySem.F.type_list_append mt_append (pv 3) (pa_cons (pv 5) pa_nil))))))))
 (pss_cons (kps_fld (K := K) (pv 0) (pe_callTy (kcall_tuple (K := K)) (by rfl) B.tuple' (by decide +kernel) (pa_cons (pv 3) pa_nil)))
 (pss_cons (kps_fld (K := K) (pv 0) (pe_callTy (kcall_tuple (K := K)) (by rfl) B.tuple' (by decide +kernel) (pa_cons (pv 4) pa_nil)))
 (pss_cons (kps_fld (K := K) (pv 0) pe_dnewK)
 (pss_cons (kps_fld (K := K) (pv 0) pe_dnewK)
 (pss_cons (ps_for (passes_of rfl) rfl (kpi_list (K := K) (pv 2)) (pg_tup rfl (pgs_cons (pg_name (i := 5) sc_Plan___init__.nd rfl (Or.inl rfl)) (pgs_cons (pg_name (i := 7) sc_Plan___init__.nd rfl (Or.inl rfl)) (pgs_cons (pg_name (i := 8) sc_Plan___init__.nd rfl (Or.inl rfl)) pgs_nil)))) (pss_one (ps_expr (pe_metD DM_Plan_put_step T_Plan.cl hr (fun σ => Passes.at (passes_call (takes_of rfl rfl rfl rfl) (fun _ _ _ _ h => h)) σ) (pv 0) (pa_cons (pv 5) (pa_cons (pv 7) (pa_cons (pv 8) pa_nil)))))))
 (pss_one (kps_fld (K := K) (pv 0) (pe_callTy (kcall_tuple (K := K)) (by rfl) B.tuple' (by decide +kernel) (pa_cons (pe_callTy (call_list_dK rfl) (by rfl) B.list' (by decide +kernel) (pa_cons (kpe_fld (K := K) (pv 0)) pa_nil)) pa_nil)))))))))))))), ?_⟩
    unfold planDue at q1 q2
    -- the numbers of places and of steps
    refine ⟨_, rfl, ap, _, rfl, .inl (SqL.of hpa), _, _, rfl, rfl, _, rfl, ?_⟩
    rw [List.length_map, lP]
    refine ite2 (fun h1 => ?_) (fun h1 => ?_)
    · have h1 : 12 < prs.length := by
        have h1 : (12 : Int) < (prs.length : Int) := of_decide_eq_true h1
        omega
      rw [if_pos h1] at q2
      exact ⟨rfl, (fun _ => ⟨_, _, rfl, by decide⟩), fun d hd => (q2 _ rfl).go (SameB.refl x H) hd ⟨_, hx⟩⟩
    · have h1 : ¬ 12 < prs.length := fun e => h1 (decide_eq_true (by omega))
      rw [if_neg h1] at q1 q2
      refine ⟨_, rfl, as', _, rfl, .inl (SqL.of hsa), _, _, rfl, rfl, _, rfl, ?_⟩
      rw [List.length_map, lS]
      refine ite2 (fun h2 => ?_) (fun h2 => ?_)
      · have h2 : 16 < srs.length := by
          have h2 : (16 : Int) < (srs.length : Int) := of_decide_eq_true h2
          omega
        rw [if_pos h2] at q2
        exact ⟨rfl, (fun _ => ⟨_, _, rfl, by decide⟩), fun d hd => (q2 _ rfl).go (SameB.refl x H) hd ⟨_, hx⟩⟩
      · have h2 : ¬ 16 < srs.length := fun e => h2 (decide_eq_true (by omega))
        rw [if_neg h2] at q1 q2
        -- words = [], numbers = []
        refine ⟨Nat.zero_le _, fun D1 n1 => ⟨Nat.zero_le _, fun D2 n2 => ?_⟩⟩
        have n12 : D1 ≠ D2 := fun e => by rw [← e, upd_same] at n2; cases n2
        have s1 := (same_upd (o := .lst []) n1).trans (same_upd (o := .lst []) n2)
        have n2' : H D2 = none := (same_upd n1).free n2
        refine ⟨_, rfl, ap, rfl, ⟨_, SqL.of (s1 _ _ hpa)⟩, for_list (K := K) (a := ap) (xs := ta.map V.ref) (fun i σ H' => ∃ y1 y2, σ = [some (.ref x), some (.ref ap), some (.ref as'), some (.ref D1), some (.ref D2), y1, y2, none, none] ∧ Same H H' ∧ H' D1 = some (.lst (((prs.take i).map (·.1)).map V.str)) ∧ H' D2 = some (.lst (((prs.take i).map (·.2)).map V.int)) ∧ placesDue [] prs = placesDue ((prs.take i).map (·.1)) (prs.drop i))
          ⟨none, none, rfl, s1, by rw [upd_ne n12]; exact upd_same, upd_same, rfl⟩ (fun i σ H' _ h' => by obtain ⟨_, _, _, sm, _⟩ := h'; exact SqL.of (sm _ _ hpa)) ?_ ?_⟩
        · rintro i v σ H' hi ⟨y1, y2, rfl, sm, hD1, hD2, hk⟩
          obtain ⟨t, ht, rfl⟩ := map_get hi
          obtain ⟨⟨z, n⟩, hzn, htt⟩ := Paired.get pP ht
          have hdr : prs.drop i = (z, n) :: prs.drop (i + 1) := List.drop_eq_getElem?_toList_append.trans (by rw [hzn]; rfl)
          rw [hdr, placesDue_cons] at hk
          have zl : z.length ≤ sizeLine := Nat.le_trans (okP _ (get_mem hzn)) (by decide)
          refine ⟨t, _, rfl, SqT.of (sm _ _ htt), rfl, _, _, rfl, _, _, rfl, rfl, ?_⟩
          refine ⟨_, rfl, z, rfl, zl, fun hw H2 s2 => ?_, fun hw => ?_⟩
          · rw [if_pos hw] at hk
            have sm2 := sm.trans s2
            refine ⟨_, rfl, _, rfl, D1, _, rfl, .inl (SqL.of (s2 _ _ hD1)), rfl, flat_strs _, _, rfl, ?_⟩
            rw [inV_strs]
            refine ite2 (fun h3 => ?_) (fun h3 => ?_)
            · have h3 : z ∈ (prs.take i).map (·.1) := by simpa using h3
              rw [if_pos h3] at hk
              rw [hk] at q2
              exact ⟨_, rfl, rfl, (fun e => by cases e), fun d hd => (q2 _ rfl).go sm2.b hd ⟨_, sm2 _ _ hx⟩⟩
            · have h3 : z ∉ (prs.take i).map (·.1) := by simpa using h3
              rw [if_neg h3] at hk
              refine ⟨_, rfl, .inl ⟨rfl, _, SqL.of (s2 _ _ hD2)⟩, _, rfl, n, 0, 99, rfl, fun hin => ?_, fun hout => ?_⟩
              · rw [if_pos hin] at hk
                refine ⟨D2, _, _, rfl, rfl, s2 _ _ hD2, ?_, ?_⟩
                · rw [List.length_map, List.length_map, List.length_take]
                  exact small1000 (by omega)
                · have e1 : (upd H2 D2 (.lst (((prs.take i).map (·.2)).map V.int ++ [V.int n]))) D1 = some (.lst (((prs.take i).map (·.1)).map V.str)) := by
                    rw [upd_ne n12]
                    exact s2 _ _ hD1
                  refine ⟨_, rfl, .inl ⟨rfl, _, SqL.of e1⟩, _, rfl, D1, _, _, rfl, rfl, e1, ?_, ?_⟩
                  · rw [List.length_map, List.length_map, List.length_take]
                    exact small1000 (by omega)
                  · refine ⟨_, _, rfl, fun b o e => ?_, ?_, ?_, ?_⟩
                    · rw [upd_ne (ne_of_none e n1), upd_ne (ne_of_none e n2')]
                      exact sm2 b o e
                    · rw [upd_same, take_more hzn, List.map_append, List.map_append]
                      rfl
                    · rw [upd_ne (Ne.symm n12), upd_same, take_more hzn, List.map_append, List.map_append]
                      rfl
                    · rw [take_more hzn, List.map_append]
                      exact hk
              · rw [if_neg hout] at hk
                rw [hk] at q2
                intro H' d s3 nd hd
                exact q2 _ rfl H' d (sm2.trans s3).b (sm2.free nd) hd
          · rw [if_neg (by rw [hw]; exact Bool.false_ne_true)] at hk
            rw [hk] at q2
            intro H' d s3 nd hd
            exact q2 _ rfl H' d (sm.trans s3).b (sm.free nd) hd
        · rintro σ H' ⟨y1, y2, rfl, sm, hD1, hD2, hk⟩
          rw [List.length_map, lP, List.take_length] at hD1 hD2
          rw [List.length_map, lP, List.drop_length] at hk
          have hk : placesDue [] prs = none := hk
          rw [hk] at q1 q2
          have x0 : H' x = some (.ins C dx []) := sm _ _ hx
          -- self.places = tuple(words)
          refine ⟨_, rfl, D1, _, rfl, .inl ⟨SqL.of hD1, fun tp ntp => ?_⟩⟩
          have nx1 : x ≠ tp := ne_of_none x0 ntp
          refine ⟨_, rfl, x, C, dx, _, rfl, by rw [upd_ne nx1]; exact x0, T_Plan.cl, T_Plan.nP, by decide, ?_⟩
          have sB1 : SameB x H (upd (upd H' tp (.tup ((prs.map (·.1)).map V.str))) x (.ins C dx (putF "places" (.ref tp) []))) := (sm.b.new ntp).upd
          have x1 : (upd (upd H' tp (.tup ((prs.map (·.1)).map V.str))) x (.ins C dx (putF "places" (.ref tp) []))) x = some (.ins C dx [("places", .ref tp)]) := upd_same
          have p1 : (upd (upd H' tp (.tup ((prs.map (·.1)).map V.str))) x (.ins C dx (putF "places" (.ref tp) []))) tp = some (.tup ((prs.map (·.1)).map V.str)) := by rw [upd_ne (Ne.symm nx1)]; exact upd_same
          have d1 : (upd (upd H' tp (.tup ((prs.map (·.1)).map V.str))) x (.ins C dx (putF "places" (.ref tp) []))) D2 = some (.lst ((prs.map (·.2)).map V.int)) := by
            rw [upd_ne (fun e => by rw [e, x0] at hD2; cases hD2), upd_ne (ne_of_none hD2 ntp)]
            exact hD2
          generalize (upd (upd H' tp (.tup ((prs.map (·.1)).map V.str))) x (.ins C dx (putF "places" (.ref tp) []))) = G1 at sB1 x1 p1 d1
          -- self.begin = tuple(numbers)
          refine ⟨_, rfl, D2, _, rfl, .inl ⟨SqL.of d1, fun tb ntb => ?_⟩⟩
          have nx2 : x ≠ tb := ne_of_none x1 ntb
          refine ⟨_, rfl, x, C, dx, _, rfl, by rw [upd_ne nx2]; exact x1, T_Plan.cl, T_Plan.nB, by show 1 < 1000; decide, ?_⟩
          rw [show putF "begin" (.ref tb) [(("places" : Str), V.ref tp)] = [(("places" : Str), V.ref tp), ("begin", .ref tb)] from rfl]
          have sB2 := (sB1.new (o := .tup ((prs.map (·.2)).map V.int)) ntb).upd (o := .ins C dx [("places", .ref tp), ("begin", .ref tb)])
          have x2 : (upd (upd G1 tb (.tup ((prs.map (·.2)).map V.int))) x (.ins C dx [("places", .ref tp), ("begin", .ref tb)])) x = some (.ins C dx [("places", .ref tp), ("begin", .ref tb)]) := upd_same
          have p2 : (upd (upd G1 tb (.tup ((prs.map (·.2)).map V.int))) x (.ins C dx [("places", .ref tp), ("begin", .ref tb)])) tp = some (.tup ((prs.map (·.1)).map V.str)) := by
            rw [upd_ne (Ne.symm nx1), upd_ne (ne_of_none p1 ntb)]
            exact p1
          have b2 : (upd (upd G1 tb (.tup ((prs.map (·.2)).map V.int))) x (.ins C dx [("places", .ref tp), ("begin", .ref tb)])) tb = some (.tup ((prs.map (·.2)).map V.int)) := by rw [upd_ne (Ne.symm nx2)]; exact upd_same
          generalize (upd (upd G1 tb (.tup ((prs.map (·.2)).map V.int))) x (.ins C dx [("places", .ref tp), ("begin", .ref tb)])) = G2 at sB2 x2 p2 b2
          -- self.taken = {}
          refine fun td ntd => ?_
          have nx3 : x ≠ td := ne_of_none x2 ntd
          refine ⟨_, rfl, x, C, dx, _, rfl, by rw [upd_ne nx3]; exact x2, T_Plan.cl, T_Plan.nT, by show 2 < 1000; decide, ?_⟩
          rw [show putF "taken" (.ref td) [(("places" : Str), V.ref tp), ("begin", .ref tb)] = [(("places" : Str), V.ref tp), ("begin", .ref tb), ("taken", .ref td)] from rfl]
          have sB3 := (sB2.new (o := .dK []) ntd).upd (o := .ins C dx [("places", .ref tp), ("begin", .ref tb), ("taken", .ref td)])
          have x3 : (upd (upd G2 td (.dK [])) x (.ins C dx [("places", .ref tp), ("begin", .ref tb), ("taken", .ref td)])) x = some (.ins C dx [("places", .ref tp), ("begin", .ref tb), ("taken", .ref td)]) := upd_same
          have p3 : (upd (upd G2 td (.dK [])) x (.ins C dx [("places", .ref tp), ("begin", .ref tb), ("taken", .ref td)])) tp = some (.tup ((prs.map (·.1)).map V.str)) := by
            rw [upd_ne (Ne.symm nx1), upd_ne (ne_of_none p2 ntd)]
            exact p2
          have b3 : (upd (upd G2 td (.dK [])) x (.ins C dx [("places", .ref tp), ("begin", .ref tb), ("taken", .ref td)])) tb = some (.tup ((prs.map (·.2)).map V.int)) := by
            rw [upd_ne (Ne.symm nx2), upd_ne (ne_of_none b2 ntd)]
            exact b2
          have t3 : (upd (upd G2 td (.dK [])) x (.ins C dx [("places", .ref tp), ("begin", .ref tb), ("taken", .ref td)])) td = some (.dK []) := by rw [upd_ne (Ne.symm nx3)]; exact upd_same
          have ntdH : H td = none := sB2.free (Ne.symm nx3) ntd
          generalize (upd (upd G2 td (.dK [])) x (.ins C dx [("places", .ref tp), ("begin", .ref tb), ("taken", .ref td)])) = G3 at sB3 x3 p3 b3 t3
          -- self.given = {}
          refine fun tg ntg => ?_
          have nx4 : x ≠ tg := ne_of_none x3 ntg
          refine ⟨_, rfl, x, C, dx, _, rfl, by rw [upd_ne nx4]; exact x3, T_Plan.cl, T_Plan.nG, by show 3 < 1000; decide, ?_⟩
          rw [show putF "given" (.ref tg) [(("places" : Str), V.ref tp), ("begin", .ref tb), ("taken", .ref td)] = [(("places" : Str), V.ref tp), ("begin", .ref tb), ("taken", .ref td), ("given", .ref tg)] from rfl]
          have sB4 := (sB3.new (o := .dK []) ntg).upd (o := .ins C dx [("places", .ref tp), ("begin", .ref tb), ("taken", .ref td), ("given", .ref tg)])
          have ntgH : H tg = none := sB3.free (Ne.symm nx4) ntg
          have half : HalfAt (upd (upd G3 tg (.dK [])) x (.ins C dx [("places", .ref tp), ("begin", .ref tb), ("taken", .ref td), ("given", .ref tg)])) C x dx tp tb td tg (prs.map (·.1)) (prs.map (·.2)) [] := by
            refine ⟨upd_same, ?_, ?_, ne_of_none t3 ntg, [], [], ?_, ?_, .nil, .nil⟩
            · rw [upd_ne (Ne.symm nx1), upd_ne (ne_of_none p3 ntg)]
              exact p3
            · rw [upd_ne (Ne.symm nx2), upd_ne (ne_of_none b3 ntg)]
              exact b3
            · rw [upd_ne (Ne.symm nx3), upd_ne (ne_of_none t3 ntg)]
              exact t3
            · rw [upd_ne (Ne.symm nx4)]
              exact upd_same
          generalize (upd (upd G3 tg (.dK [])) x (.ins C dx [("places", .ref tp), ("begin", .ref tb), ("taken", .ref td), ("given", .ref tg)])) = G4 at sB4 half
          -- the steps
          have nxa : as' ≠ x := fun e => by rw [e, hx] at hsa; cases hsa
          refine ⟨_, rfl, as', rfl, ⟨_, SqL.of (sB4 _ _ nxa hsa)⟩, for_list (K := K) (a := as') (xs := sa.map V.ref) (fun i σ G => ∃ z5 z6 z7 z8, σ = [some (.ref x), some (.ref ap), some (.ref as'), some (.ref D1), some (.ref D2), z5, z6, z7, z8] ∧ SameB x H G ∧ HalfAt G C x dx tp tb td tg (prs.map (·.1)) (prs.map (·.2)) ((srs.take i).map (ordRow (prs.map (·.1)))) ∧ stepsDue (prs.map (·.1)) [] srs = stepsDue (prs.map (·.1)) ((srs.take i).map (·.1)) (srs.drop i))
            ⟨_, _, _, _, rfl, sB4, half, rfl⟩ (fun i σ G _ h' => by obtain ⟨_, _, _, _, _, sm, _⟩ := h'; exact SqL.of (sm _ _ nxa hsa)) ?_ ?_⟩
          · rintro i v σ G hi ⟨z5, z6, z7, z8, rfl, sg, hg, hk5⟩
            obtain ⟨t, ht, rfl⟩ := map_get hi
            obtain ⟨r, hr5, b5, c5, htt, hb5, hc5, _⟩ := Paired.get pS ht
            have hdr : srs.drop i = r :: srs.drop (i + 1) := List.drop_eq_getElem?_toList_append.trans (by rw [hr5]; rfl)
            rw [hdr, stepsDue_cons] at hk5
            have nxl : ∀ {a : Addr} {l : List V}, H a = some (.lst l) → a ≠ x := fun {a l} h e => by rw [e, hx] at h; cases h
            have nxt : t ≠ x := fun e => by rw [e, hx] at htt; cases htt
            obtain ⟨o1, o2, o3⟩ := okS r (get_mem hr5)
            have enm : ((srs.take i).map (ordRow (prs.map (·.1)))).map (·.1) = (srs.take i).map (·.1) := by
              rw [List.map_map]
              rfl
            refine ⟨t, _, rfl, SqT.of (sg _ _ nxt htt), rfl, _, _, rfl, _, _, rfl, _, _, rfl, rfl, ?_⟩
            refine ⟨_, rfl, x, dx, _, rfl, hg.hx, rfl, _, rfl, _, rfl, _, rfl, x, dx, tp, tb, td, tg, b5, c5, _, _, _, r, rfl, hg, ⟨SqL.of (sg _ _ (nxl hb5) hb5), SqL.of (sg _ _ (nxl hc5) hc5), o1, o2, o3⟩, ?_, ?_, fun hd5 G5 s25 hg5 => ?_, fun e hd5 => ?_⟩
            · rw [List.length_map]
              omega
            · rw [List.length_map, List.length_take]
              omega
            · rw [enm] at hd5
              rw [hd5] at hk5
              refine ⟨_, _, _, _, rfl, fun a o ha e => s25 a o (ne_of_none e ntdH) (ne_of_none e ntgH) (sg a o ha e), ?_, ?_⟩
              · rw [take_more hr5, List.map_append]
                exact hg5
              · rw [take_more hr5, List.map_append]
                exact hk5
            · rw [enm] at hd5
              rw [hd5] at hk5
              intro G5 d s5 nd hd
              have dx5 : d ≠ x := fun q => by rw [q, hg.hx] at nd; cases nd
              exact q2 _ hk5 G5 d (sg.trans s5.b) (sg.free dx5 nd) hd
          · rintro σ G ⟨z5, z6, z7, z8, rfl, sg, hg, hk5⟩
            rw [List.length_map, lS, List.drop_length] at hk5
            rw [List.length_map, lS, List.take_length] at hg
            have hk5 : stepsDue (prs.map (·.1)) [] srs = none := hk5
            obtain ⟨kt, kg, htd, htg, tt, tgg⟩ := hg.tabs
            -- self.steps = tuple(list(self.taken))
            refine ⟨_, rfl, x, C, dx, _, _, rfl, hg.hx, T_Plan.cl, T_Plan.nT, rfl, td, kt, rfl, htd, fun l5 nl5 => ⟨l5, _, rfl, .inl ⟨SqL.of upd_same, fun ts nts => ?_⟩⟩⟩
            have nx5 : x ≠ l5 := ne_of_none hg.hx nl5
            have xg : (upd G l5 (.lst (kt.map fun kv => kV kv.1))) x = some (.ins C dx [("places", .ref tp), ("begin", .ref tb), ("taken", .ref td), ("given", .ref tg)]) := by rw [upd_ne nx5]; exact hg.hx
            have nx6 : x ≠ ts := ne_of_none xg nts
            refine ⟨_, rfl, x, C, dx, _, rfl, by rw [upd_ne nx6]; exact xg, T_Plan.cl, T_Plan.nS, by show 4 < 1000; decide, ?_⟩
            rw [show putF "steps" (.ref ts) [(("places" : Str), V.ref tp), ("begin", .ref tb), ("taken", .ref td), ("given", .ref tg)] = [(("places" : Str), V.ref tp), ("begin", .ref tb), ("taken", .ref td), ("given", .ref tg), ("steps", .ref ts)] from rfl]
            have kp : ∀ a o, a ≠ x → G a = some o → (upd (upd (upd G l5 (.lst (kt.map fun kv => kV kv.1))) ts (.tup (kt.map fun kv => kV kv.1))) x (.ins C dx [("places", .ref tp), ("begin", .ref tb), ("taken", .ref td), ("given", .ref tg), ("steps", .ref ts)])) a = some o := fun a o ha e => by
              have e2 := same_upd (o := .lst (kt.map fun kv => kV kv.1)) nl5 _ _ e
              rw [upd_ne ha, upd_ne (ne_of_none e2 nts)]
              exact e2
            have nk : ∀ {a : Addr} {o : HO}, G a = some o → (∀ C dx fs, o ≠ .ins C dx fs) → a ≠ x := fun {a o} h1 h2 e => by
              rw [e, hg.hx] at h1
              exact h2 _ _ _ (Option.some.inj h1).symm
            have keys : ∀ {kvs : List (Key × V)} {rows : List (Str × List Str)}, TabAt G kvs rows → (kvs.map fun kv => kV kv.1) = (rows.map (·.1)).map V.str := by
              intro kvs rows h
              induction h with
              | nil => rfl
              | cons h1 _ ih =>
                rw [List.map_cons, List.map_cons, List.map_cons, ih, h1.1]
                rfl
            refine q1 hk5 _ (fun a o ha e => kp a o ha (sg a o ha e)) ⟨dx, tp, tb, td, tg, ts, kt, kg, upd_same, ?_, ?_, ?_, ?_, ?_, ?_, ?_⟩
            · exact kp _ _ (nk hg.hp (fun _ _ _ => by intro h; cases h)) hg.hp
            · exact kp _ _ (nk hg.hb (fun _ _ _ => by intro h; cases h)) hg.hb
            · exact kp _ _ (nk htd (fun _ _ _ => by intro h; cases h)) htd
            · exact kp _ _ (nk htg (fun _ _ _ => by intro h; cases h)) htg
            · rw [upd_ne (Ne.symm nx6), upd_same, keys tt, tRows_names]
              rfl
            · exact tt.keep fun t l e => kp _ _ (nk e (fun _ _ _ => by intro h; cases h)) e
            · exact tgg.keep fun t l e => kp _ _ (nk e (fun _ _ _ => by intro h; cases h)) e
/-- Plan(places, steps), as a caller sees it -/
theorem mk_plan {cs : ECs} {C ap as' : Addr} {H : Hp} {Q : Addr → Hp → Prop} {E : XK} {prs : List (Str × Int)} {srs : List SRow} (hP : PRows H ap prs) (hS : SRows H as' srs) (okP : PRowsOk prs) (okS : SRowsOk srs)
    (q1 : planDue prs srs = none → ∀ (x : Addr) (H' : Hp), H x = none → Same H H' → PlanAt H' C x (planOf prs srs) → Q x H') (q2 : ∀ e, planDue prs srs = some e → RaisP cs E H e) :
    ∀ x dx, H x = none → H dx = none → dx ≠ x → spInit K cs C [.ref x, .ref ap, .ref as'] (upd (upd H dx (.own x)) x (.ins C dx [])) (fun v H2 => v = .non ∧ Q x H2) E := by
  intro x dx nx ndx ne
  have s1 : Same H (upd (upd H dx (.own x)) x (.ins C dx [])) := (same_upd ndx).trans (same_upd (by rw [upd_ne (Ne.symm ne)]; exact nx))
  refine ⟨x, dx, ap, as', prs, srs, rfl, upd_same, hP.keep s1, hS.keep s1, okP, okS, fun hk H' sm hp => ⟨rfl, q1 hk x H' nx (fun a o e => sm a o (ne_of_none e nx) (s1 a o e)) hp⟩, fun e hk H' d sm nd hd => ?_⟩
  exact q2 e hk H' d (fun a o e => sm a o (ne_of_none e nx) (s1 a o e)) (s1.free nd) hd
end

/-! ## ch13 -/
section
variable {P : Program} {w : World} {K : PySem.W.Frag} {mg : Str → Option Value} {base : Heap}
def takesD (d : PlanD) (n : Str) : Option (List Str) := (d.steps.map fun s => (s.1, s.2.1)).lookup n
theorem names_t (d : PlanD) : (d.steps.map fun s => (s.1, s.2.1)).map (·.1) = d.names := by
  unfold PlanD.names
  rw [List.map_map]
  rfl
abbrev s_Plan_takes : Stmt := inClass (topS 26) 3
theorem sc_Plan_takes : FnScope ["self", "step"] ["self", "step"] (defScope s_Plan_takes) := ⟨rfl, rfl, rfl, by decide +kernel, rfl, by decide +kernel, by decide +kernel⟩
def spTakes (cs : ECs) (C : Addr) : Sp := fun vs H Q E => ∃ (x : Addr) (n : Str) (d : PlanD), vs = [.ref x, .str n] ∧ PlanAt H C x d ∧
  (n ∈ d.names → ∀ t l, H t = some (.tup (l.map V.str)) → takesD d n = some l → Q (.ref t) H) ∧ (n ∉ d.names → RaisP cs E H (.unknown n))
theorem ok_takes {k : Nat} {cs : ECs} {C f_UnknownName : Addr} (B : Bl mg) (T_Plan : PlanC K mg C) (X_UnknownName : ErrTxt P K mg false "UnknownName" cs.unknown f_UnknownName ["name"])
    (F : SrcM K C "takes" "Plan.takes" s_Plan_takes ["self", "step"]) : DefM P w K mg base (L2.CX P w) (k + 1) C "takes" ["self", "step"] (spTakes cs C) := by
  refine F.okX sc_Plan_takes (fun vs H Q E h => ?_) (fun f cdv A outer s H vs Q E hr h => ?_)
  · obtain ⟨x, n, d, rfl, _⟩ := h
    rfl
  · obtain ⟨x, n, d, rfl, hp, q1, q2⟩ := h
    obtain ⟨dx, tp, tb, td, tg, ts, kt, kg, p1, p2, p3, p4, p5, p6, p7, p8⟩ := hp.ex
    refine ⟨_, (pss_cons (ps_if (pt_cmp (pc_dnotin (hu_of hr) (pv 1) (kpe_fld (K := K) (pv 0)))) (pss_one (ps_raiseE rfl X_UnknownName hr (takes_of rfl rfl rfl rfl) (pa_cons (pv 1) pa_nil))) pss_nil)
 (pss_one (ps_ret (pe_dget (hu_of hr) (kpe_fld (K := K) (pv 0)) (pv 1) (fun _ _ => rfl))))), ?_⟩
    obtain ⟨v1, v2⟩ := valV_tab p7 n
    rw [names_t] at v1 v2
    refine ⟨_, rfl, _, rfl, x, C, dx, _, _, rfl, p1, T_Plan.cl, T_Plan.nT, rfl, td, _, rfl, DGet.k (k := Sum.inr n) p4, _, rfl, ?_⟩
    by_cases hn : n ∈ d.names
    · obtain ⟨t, l, e1, e2, e3⟩ := v1 hn
      rw [e1]
      refine iteF ⟨_, rfl, x, C, dx, _, _, rfl, p1, T_Plan.cl, T_Plan.nT, rfl, ?_⟩
      have g : DGet H td (.str n) (valV kt (Sum.inr n)) := DGet.k (k := Sum.inr n) p4
      rw [e1] at g
      exact ⟨_, rfl, td, _, rfl, g, q1 hn t l e2 e3⟩
    · rw [v2 hn]
      exact iteT ⟨_, rfl, rfl, (fun e => by cases e), fun d hd => q2 hn _ _ (same_upd hd) hd upd_same⟩
/-! the choices -/
def addG (gs : List (List Str × List Str)) (k : List Str) (n : Str) : List (List Str × List Str) :=
  if k ∈ gs.map (·.1) then gs.map fun x => if x.1 = k then (x.1, x.2 ++ [n]) else x else gs ++ [(k, [n])]
def choiceT (ss : List SRow) : List (List Str × List Str) := ss.foldl (fun gs s => addG gs s.2.1 s.1) []
def choicesD (d : PlanD) : List (List Str) := (choiceT d.steps).map (·.2)
theorem choiceT_snoc (ss : List SRow) (s : SRow) : choiceT (ss ++ [s]) = addG (choiceT ss) s.2.1 s.1 := by
  unfold choiceT
  rw [List.foldl_append]
  rfl
/-- a group in the heap: its key, its address, its steps -/
abbrev GRow := List Str × Addr × List Str
def encT (e : GRow) : List Key × V := (e.1.map Sum.inr, .ref e.2.1)
theorem inr_inj : ∀ {a b : List Str}, a.map (Sum.inr (α := Int)) = b.map Sum.inr → a = b
  | [], [], _ => rfl
  | [], _ :: _, h => by cases h
  | _ :: _, [], h => by cases h
  | a :: l, b :: m, h => by
    rw [List.map_cons, List.map_cons, List.cons.injEq] at h
    rw [Sum.inr.inj h.1, inr_inj h.2]
theorem valT : ∀ (L : List GRow) (k : List Str), (k ∈ L.map (·.1) → ∃ e ∈ L, e.1 = k ∧ valV (L.map encT) (k.map Sum.inr) = some (.ref e.2.1)) ∧ (k ∉ L.map (·.1) → valV (L.map encT) (k.map Sum.inr) = none)
  | [], k => ⟨(fun h => by cases h), fun _ => rfl⟩
  | e :: L, k => by
    obtain ⟨ih1, ih2⟩ := valT L k
    by_cases he : e.1 = k
    · refine ⟨fun _ => ⟨e, List.mem_cons_self .., he, ?_⟩, fun h => absurd (by rw [← he]; exact List.mem_cons_self ..) h⟩
      rw [List.map_cons, valV_pos (by rw [← he]; rfl)]
      rfl
    · have hk : ¬ (encT e).1 = k.map Sum.inr := fun q => he (inr_inj q)
      refine ⟨fun h => ?_, fun h => ?_⟩
      · rcases List.mem_cons.mp h with h | h
        · exact absurd h.symm he
        · obtain ⟨e', h1, h2, h3⟩ := ih1 h
          exact ⟨e', List.mem_cons_of_mem _ h1, h2, by rw [List.map_cons, valV_neg hk]; exact h3⟩
      · rw [List.map_cons, valV_neg hk]
        exact ih2 fun q => h (List.mem_cons_of_mem _ q)
theorem lookup_nd {β : Type} {k : Str} {v : β} : ∀ {l : List (Str × β)}, (l.map (·.1)).Nodup → (k, v) ∈ l → l.lookup k = some v
  | [], _, h => by cases h
  | (a, b) :: l, hn, h => by
    rw [List.map_cons, List.nodup_cons] at hn
    rcases List.mem_cons.mp h with h | h
    · cases h
      rw [List.lookup_cons]
      simp
    · have ne : (k == a) = false := by
        simp only [beq_eq_false_iff_ne, ne_eq]
        intro q
        exact hn.1 (List.mem_map.mpr ⟨(k, v), h, q⟩)
      rw [List.lookup_cons, ne]
      exact lookup_nd hn.2 h
theorem takes_of_mem {d : PlanD} {r : SRow} (hn : d.names.Nodup) (h : r ∈ d.steps) : takesD d r.1 = some r.2.1 := by
  unfold takesD
  refine lookup_nd ?_ (List.mem_map.mpr ⟨r, h, rfl⟩)
  rw [names_t]
  exact hn
def putG (k : List Str) (n : Str) (e : GRow) : GRow := if e.1 = k then (e.1, e.2.1, e.2.2 ++ [n]) else e
theorem putG_enc (k : List Str) (n : Str) (e : GRow) : encT (putG k n e) = encT e := by
  unfold putG
  split <;> rfl
theorem putG_addr (k : List Str) (n : Str) (e : GRow) : (putG k n e).2.1 = e.2.1 := by
  unfold putG
  split <;> rfl
theorem putG_key (k : List Str) (n : Str) (e : GRow) : (putG k n e).1 = e.1 := by
  unfold putG
  split <;> rfl
theorem nodup_key {α β : Type} {f : α → β} : ∀ {l : List α}, (l.map f).Nodup → ∀ {a b : α}, a ∈ l → b ∈ l → f a = f b → a = b
  | [], _, _, _, h, _, _ => by cases h
  | x :: l, hn, a, b, ha, hb, e => by
    rw [List.map_cons, List.nodup_cons] at hn
    rcases List.mem_cons.mp ha with ha | ha
    · rcases List.mem_cons.mp hb with hb | hb
      · rw [ha, hb]
      · exact absurd (List.mem_map.mpr ⟨b, hb, by rw [← e, ha]⟩) hn.1
    · rcases List.mem_cons.mp hb with hb | hb
      · exact absurd (List.mem_map.mpr ⟨a, ha, by rw [e, hb]⟩) hn.1
      · exact nodup_key hn.2 ha hb e
abbrev s_choices : Stmt := topS 2
theorem sc_choices : FnScope ["plan", "groups", "step", "group"] ["plan"] (defScope s_choices) := ⟨rfl, rfl, rfl, by decide +kernel, rfl, by decide +kernel, by decide +kernel⟩
def spChoices (C : Addr) : Sp := fun vs H Q _ => ∃ (x : Addr) (d : PlanD), vs = [.ref x] ∧ PlanAt H C x d ∧ d.names.Nodup ∧ d.steps.length ≤ 16 ∧
  ∀ (p : Addr) (ts : List Addr) (H' : Hp), Same H H' → H p = none → H' p = some (.lst (ts.map V.ref)) → Paired (fun t g => H' t = some (.tup (g.map V.str))) ts (choicesD d) → Q (.ref p) H'
theorem ok_choices {k : Nat} {cs : ECs} {C : Addr} (B : Bl mg) (T_Plan : PlanC K mg C) (DM_Plan_takes : DefM P w K mg base (L2.CX P w) k C "takes" ["self", "step"] (spTakes cs C))
    (F : Src K mg "choices" s_choices ["plan"]) : Def P w K mg base CX0 (k + 1) "choices" ["plan"] (spChoices C) := by
  refine F.ok sc_choices (fun vs H Q E h => ?_) (fun f cdv A outer s H vs Q E hr h => ?_)
  · obtain ⟨x, d, rfl, _⟩ := h
    rfl
  · obtain ⟨x, d, rfl, hp, hnd, hl, q⟩ := h
    obtain ⟨dx, tp, tb, td, tg, ts, kt, kg, p1, p2, p3, p4, p5, p6, p7, p8⟩ := hp.ex
    refine ⟨_, (pss_cons (ps_asg pe_dnewT (pg_name (i := 1) sc_choices.nd rfl (Or.inl rfl)))
 (pss_cons (ps_for PassesOwn.never rfl (kpi_tup (K := K) (kpe_fld (K := K) (pv 0))) (pg_name (i := 2) sc_choices.nd rfl (Or.inl rfl)) (pss_cons (ps_asg (pe_bm PySem.F.plainAttrs_dict PySem.F.slot_dict_setdefault PySem.F.type_dict_setdefault (mt_setdefT (hu_of hr)) (pv 1) (pa_cons (pe_metD DM_Plan_takes T_Plan.cl hr (fun σ => Passes.at passL σ) (pv 0) (pa_cons (pv 2) pa_nil)) (pa_cons (pe_lst pa_nil) pa_nil))) (pg_name (i := 3) sc_choices.nd rfl (Or.inl rfl)))
 (pss_one (ps_expr (pe_bm PySem.F.plainAttrs_list PySem.F.slot_list_append PySem.F.type_list_append mt_append (pv 3) (pa_cons (pv 2) pa_nil))))))
 (pss_one (ps_ret (pe_lock (pe_lc (own := [("group", 3)]) (g := gName 3) (by rfl) sc_choices.nd (pi_valuesT (pv 1)) (blkOk_by (N := ["plan", "groups", "step", "group"]) (sc := defScope s_choices) (by decide +kernel)) (fun _ _ _ _ _ => (pg_name (i := 3) sc_choices.nd rfl (Or.inl rfl))) (fun _ _ _ _ _ => pts_nil) (fun _ _ _ _ _ => (pe_callTy (kcall_tuple (K := K)) (by rfl) B.tuple' (by decide +kernel) (pa_cons (pv 3) pa_nil))))))))), ?_⟩
    refine fun G nG => ?_
    have s0 := same_upd (o := .dT []) nG
    have hpn : d.names.length = d.steps.length := by unfold PlanD.names; rw [List.length_map]
    refine ⟨_, rfl, x, C, dx, _, _, rfl, s0 _ _ p1, T_Plan.cl, T_Plan.nS, rfl, ts, rfl, ⟨_, SqT.of (s0 _ _ p6)⟩, for_tup (K := K) (a := ts) (xs := d.names.map V.str) (fun i σ H' => ∃ (L : List GRow) (y2 y3 : Option V), σ = [some (.ref x), some (.ref G), y2, y3] ∧ Same H H' ∧ H' G = some (.dT (L.map encT)) ∧ (∀ e ∈ L, H' e.2.1 = some (.lst (e.2.2.map V.str)) ∧ H e.2.1 = none ∧ e.2.2.length ≤ i) ∧ (L.map (·.2.1)).Nodup ∧ (L.map (·.1)).Nodup ∧ L.map (fun e => (e.1, e.2.2)) = choiceT (d.steps.take i) ∧ L.length ≤ i)
      ⟨[], none, none, rfl, s0, upd_same, (fun e h => by cases h), .nil, .nil, rfl, Nat.le_refl _⟩ (fun i σ H' _ ⟨_, _, _, _, sm, _⟩ => SqT.of (sm _ _ p6)) ?_ ?_⟩
    · rintro i v σ H' hi ⟨L, y2, y3, rfl, sm, hG, hL, na, nk, hch, hlen⟩
      obtain ⟨n, hn, rfl⟩ := map_get hi
      have hi2 : i < d.steps.length := by
        rw [← hpn]
        rcases Nat.lt_or_ge i d.names.length with h | h
        · exact h
        · rw [List.getElem?_eq_none h] at hn
          cases hn
      have hr1 : d.steps[i]? = some d.steps[i] := List.getElem?_eq_getElem hi2
      generalize hre : d.steps[i] = r at hr1
      have hrn : n = r.1 := by
        unfold PlanD.names at hn
        rw [List.getElem?_map, hr1] at hn
        exact (Option.some.inj hn).symm
      subst hrn
      have hrm := List.mem_of_getElem? hr1
      have hnm : r.1 ∈ d.names := List.mem_map.mpr ⟨r, hrm, rfl⟩
      refine ⟨_, rfl, .inr (.inr (.inl ⟨rfl, .inr ⟨_, hG⟩⟩)), _, rfl, x, dx, _, rfl, sm _ _ p1, rfl, _, rfl, x, r.1, d, rfl, hp.keep sm, fun _ t l e2 e3 => ?_, fun h => absurd hnm h⟩
      have el : l = r.2.1 := by
        rw [takes_of_mem hnd hrm] at e3
        exact (Option.some.inj e3).symm
      subst el
      refine ⟨Nat.zero_le _, fun p np => ?_⟩
      have u1 := same_upd (o := .lst []) np
      have hG1 := u1 _ _ hG
      have htk : (upd H' p (.lst [])) t = some (.tup ((r.2.1.map Sum.inr).map kV)) := by
        rw [List.map_map]
        exact u1 _ _ e2
      obtain ⟨v1, v2⟩ := valT L r.2.1
      refine ⟨G, _, _, t, .ref p, rfl, rfl, hG1, htk, by rw [List.length_map]; exact small1000 (by omega), fun v hv => ?_, fun hv => ?_⟩
      · have hin : r.2.1 ∈ L.map (·.1) := Decidable.byContradiction fun h => by
          rw [v2 h] at hv
          cases hv
        obtain ⟨e, he, hek, hev⟩ := v1 hin
        rw [hev] at hv
        cases hv
        obtain ⟨h1, h2, h3⟩ := hL e he
        have h1' := u1 _ _ h1
        have nGe : G ≠ e.2.1 := fun q => by rw [← q, hG] at h1; cases h1
        refine ⟨_, rfl, .inl ⟨rfl, _, SqL.of h1'⟩, _, rfl, e.2.1, _, _, rfl, rfl, h1', by rw [List.length_map]; exact small1000 (by omega), ?_⟩
        refine ⟨L.map (putG r.2.1 r.1), _, _, rfl, (sm.trans u1).mut h2, ?_, fun e' he' => ?_, ?_, ?_, ?_, by rw [List.length_map]; omega⟩
        · rw [upd_ne nGe, hG1, List.map_map]
          congr 2
          exact List.map_congr_left fun y _ => (putG_enc _ _ y).symm
        · obtain ⟨y, hy, rfl⟩ := List.mem_map.mp he'
          rw [putG_addr]
          obtain ⟨g1, g2, g3⟩ := hL y hy
          by_cases hyk : y.1 = r.2.1
          · have hye : y = e := nodup_key nk hy he (by rw [hyk, hek])
            rw [hye]
            have : putG r.2.1 r.1 e = (e.1, e.2.1, e.2.2 ++ [r.1]) := by unfold putG; rw [if_pos hek]
            rw [this]
            refine ⟨by rw [upd_same, List.map_append]; rfl, h2, by rw [List.length_append]; show _ + 1 ≤ _; omega⟩
          · have : putG r.2.1 r.1 y = y := by unfold putG; rw [if_neg hyk]
            rw [this]
            have hne : y.2.1 ≠ e.2.1 := fun q => hyk (by rw [nodup_key na hy he q]; exact hek)
            exact ⟨by rw [upd_ne hne]; exact u1 _ _ g1, g2, by omega⟩
        · rw [List.map_map, show ((fun e : GRow => e.2.1) ∘ putG r.2.1 r.1) = fun e => e.2.1 from funext fun y => putG_addr _ _ y]
          exact na
        · rw [List.map_map, show ((fun e : GRow => e.1) ∘ putG r.2.1 r.1) = fun e => e.1 from funext fun y => putG_key _ _ y]
          exact nk
        · rw [take_more hr1, choiceT_snoc, ← hch]
          unfold addG
          rw [if_pos (by rw [List.map_map]; exact hin), List.map_map, List.map_map]
          refine List.map_congr_left fun y _ => ?_
          show ((putG r.2.1 r.1 y).1, (putG r.2.1 r.1 y).2.2) = if y.1 = r.2.1 then (y.1, y.2.2 ++ [r.1]) else (y.1, y.2.2)
          unfold putG
          split <;> rfl
      · have hin : r.2.1 ∉ L.map (·.1) := fun h => by
          obtain ⟨e, _, _, hev⟩ := v1 h
          rw [hev] at hv
          cases hv
        have nGp : G ≠ p := ne_of_none hG np
        have hp1 : (upd (upd H' p (.lst [])) G (.dT (L.map encT ++ [(r.2.1.map Sum.inr, .ref p)]))) p = some (.lst []) := by
          rw [upd_ne (Ne.symm nGp)]
          exact upd_same
        have npH := sm.free np
        refine ⟨_, rfl, .inl ⟨rfl, _, SqL.of hp1⟩, _, rfl, p, _, _, rfl, rfl, hp1, Nat.zero_lt_of_lt (show 0 < sizeLine by decide), ?_⟩
        refine ⟨L ++ [(r.2.1, p, [r.1])], _, _, rfl, (((sm.trans u1).mut nG).mut npH), ?_, fun e' he' => ?_, ?_, ?_, ?_, by rw [List.length_append]; show _ + 1 ≤ _; omega⟩
        · rw [upd_ne nGp, upd_same, List.map_append]
          rfl
        · rcases List.mem_append.mp he' with h | h
          · obtain ⟨g1, g2, g3⟩ := hL e' h
            have n1 : e'.2.1 ≠ p := ne_of_none g1 np
            have n2 : e'.2.1 ≠ G := fun q => by rw [q, hG] at g1; cases g1
            exact ⟨by rw [upd_ne n1, upd_ne n2]; exact u1 _ _ g1, g2, by omega⟩
          · rw [List.mem_singleton.mp h]
            exact ⟨upd_same, npH, by show 1 ≤ _; omega⟩
        · rw [List.map_append]
          refine nodup_snoc na fun h => ?_
          obtain ⟨y, hy, hy2⟩ := List.mem_map.mp h
          have := (hL y hy).1
          rw [show y.2.1 = p from hy2, np] at this
          cases this
        · rw [List.map_append]
          exact nodup_snoc nk hin
        · rw [take_more hr1, choiceT_snoc, ← hch, List.map_append]
          unfold addG
          rw [if_neg (by rw [List.map_map]; exact hin)]
          rfl
    · rintro σ H' ⟨L, y2, y3, rfl, sm, hG, hL, na, nk, hch, hlen⟩
      rw [List.length_map, hpn] at hlen
      rw [List.length_map, hpn, List.take_length] at hch
      refine ⟨G, _, hG, trivial, fun od => ?_⟩
      have hne : ∀ {c : Addr} {o : HO}, H' c = some o → c ≠ G → (upd H' G (.frz od (.dT (L.map encT)))) c = some o := fun h n => by rw [upd_ne n]; exact h
      refine ⟨_, rfl, G, od, _, rfl, upd_same, fun D nD => ?_⟩
      have nDG : D ≠ G := fun q => by rw [q, upd_same] at nD; cases nD
      have nDH' : H' D = none := by rw [upd_ne nDG] at nD; exact nD
      refine lc_it (walk_valuesT (kvs := L.map encT)) (fun i J => ∃ tl : List Addr, Same (upd H' G (.frz od (.dT (L.map encT)))) J ∧ J D = some (.lst (tl.map V.ref)) ∧ Paired (fun t g => J t = some (.tup (g.map V.str))) tl ((L.take i).map (·.2.2))) ⟨[], same_upd nD, upd_same, .nil⟩ (fun i J _ ⟨_, sj, _⟩ => sj _ _ upd_same) ?_ ?_
      · rintro i y J0 J hi ⟨tl, sj, hJD, pj⟩ ⟨rfl, kk, hkk⟩
        rw [List.getElem?_map] at hkk
        obtain ⟨e, he, hee⟩ := Option.map_eq_some_iff.mp hkk
        cases hee
        have hem := List.mem_of_getElem? he
        obtain ⟨g1, g2, g3⟩ := hL e hem
        have n2 : e.2.1 ≠ G := fun q => by rw [q, hG] at g1; cases g1
        have hJe := sj _ _ (hne g1 n2)
        refine ⟨rfl, yes_if ?_⟩
        refine ⟨_, rfl, e.2.1, _, rfl, .inl ⟨SqL.of hJe, fun t nt => ?_⟩⟩
        have u := same_upd (o := .tup (e.2.2.map V.str)) nt
        have ltl : tl.length ≤ i := by
          rw [Paired.len pj, List.length_map, List.length_take]
          omega
        have hi3 : i < L.length := by
          rw [List.length_map] at hi
          exact hi
        refine ⟨_, u _ _ hJD, by rw [List.length_map]; exact small1000 (by omega), tl ++ [t], (sj.trans u).mut nD, by rw [upd_same, List.map_append]; rfl, ?_⟩
        have nJD : ∀ {c : Addr} {xs : List V}, (upd J t (.tup (e.2.2.map V.str))) c = some (.tup xs) → (upd (upd J t (.tup (e.2.2.map V.str))) D (.lst (tl.map V.ref ++ [V.ref t]))) c = some (.tup xs) := fun {c xs} h => by
          rw [upd_ne (fun q => by rw [q, u _ _ hJD] at h; cases h)]
          exact h
        rw [take_more he, List.map_append]
        exact PySem.Paired.snoc (Paired.imp2 (fun c g h => nJD (u _ _ h)) pj) (nJD upd_same)
      · rintro J ⟨tl, sj, hJD, pj⟩
        rw [List.length_map, List.take_length] at pj
        have hJG : J G = some (.frz od (.dT (L.map encT))) := sj _ _ upd_same
        refine ⟨hJG, ?_⟩
        have hs : Same H (upd J G (.dT (L.map encT))) := fun c o e => by
          have nc : c ≠ G := ne_of_none e nG
          rw [upd_ne nc]
          exact sj _ _ (hne (sm _ _ e) nc)
        refine q D tl _ hs (sm.free nDH') (by rw [upd_ne nDG]; exact hJD) ?_
        have e2 : choicesD d = L.map (·.2.2) := by
          unfold choicesD
          rw [← hch, List.map_map]
          rfl
        rw [e2]
        exact Paired.imp2 (fun c g h => by rw [upd_ne (fun q => by rw [q, hJG] at h; cases h)]; exact h) pj
end

/-! ## ch13b -/
section
variable {P : Program} {w : World} {K : PySem.W.Frag} {mg : Str → Option Value} {base : Heap}
theorem go_cb {r : List V → Hp → VK → Prop} {t : TA} {σ : L2.St} {H : Hp} {Q : VK} (h : t σ H fun xs H1 => r xs H1 Q) : tCB r t σ H Q := h
def tStrs (l : List Str) : PyData := .tuple (l.map PyData.str)
theorem nb_tstrs {l : List Str} (h : ∀ y ∈ l, Asc y) : nb (tStrs l) = true := nb_strs h
theorem sh_tstrs {l : List Str} (h : ∀ y ∈ l, Asc y) : SeqAt.shaped (tStrs l) = true := shaped_of (nb_tstrs h) (by
  unfold tStrs
  simp only [PyData.depth]
  have := depth_strs l
  omega)
theorem str_inj : ∀ {a b : List Str}, a.map PyData.str = b.map PyData.str → a = b
  | [], [], _ => rfl
  | [], _ :: _, h => by cases h
  | _ :: _, [], h => by cases h
  | a :: l, b :: m, h => by
    rw [List.map_cons, List.map_cons, List.cons.injEq] at h
    rw [PyData.str.inj h.1, str_inj h.2]
theorem eqv_tstrs {a b : List Str} (ha : ∀ y ∈ a, Asc y) (hb : ∀ y ∈ b, Asc y) : (tStrs a).eqv (tStrs b) = decide (a = b) := by
  by_cases e : a = b
  · rw [e, eqv_self (nb_tstrs hb), decide_eq_true rfl]
  · rw [decide_eq_false e]
    cases h : (tStrs a).eqv (tStrs b) with
    | false => rfl
    | true => exact absurd (str_inj (PyData.tuple.inj ((eqv_nb _ _ (nb_tstrs ha) (nb_tstrs hb)).mp h))) e
def AscPlan (d : PlanD) : Prop := ∀ r ∈ d.steps, ∀ y ∈ r.2.1, Asc y
def choiceOfD (d : PlanD) (l : List Str) : List Str := (d.steps.filter fun r => decide (r.2.1 = l)).map (·.1)
abbrev s_choice_of : Stmt := topS 3
theorem sc_choice_of : FnScope ["plan", "step", "taken", "other"] ["plan", "step"] (defScope s_choice_of) := ⟨rfl, rfl, rfl, by decide +kernel, rfl, by decide +kernel, by decide +kernel⟩
def spChoiceOf (cs : ECs) (C : Addr) : Sp := fun vs H Q E => ∃ (x : Addr) (n : Str) (d : PlanD), vs = [.ref x, .str n] ∧ PlanAt H C x d ∧ d.names.Nodup ∧ d.steps.length ≤ 16 ∧ AscPlan d ∧
  (n ∈ d.names → ∀ (p : Addr) (l : List Str) (H' : Hp), takesD d n = some l → Same H H' → H' p = some (.tup ((choiceOfD d l).map V.str)) → Q (.ref p) H') ∧ (n ∉ d.names → RaisP cs E H (.unknown n))
theorem ok_choice_of {k : Nat} {cs : ECs} {C : Addr} (B : Bl mg) (T_Plan : PlanC K mg C) (DM_Plan_takes : DefM P w K mg base (L2.CX P w) k C "takes" ["self", "step"] (spTakes cs C))
    (F : Src K mg "choice_of" s_choice_of ["plan", "step"]) : Def P w K mg base (L2.CX P w) (k + 1) "choice_of" ["plan", "step"] (spChoiceOf cs C) := by
  refine F.okX sc_choice_of (fun vs H Q E h => ?_) (fun f cdv A outer s H vs Q E hr h => ?_)
  · obtain ⟨x, n, d, rfl, _⟩ := h
    rfl
  · obtain ⟨x, n, d, rfl, hp, hnd, hl, hasc, q1, q2⟩ := h
    obtain ⟨dx, tp, tb, td, tg, ts, kt, kg, p1, p2, p3, p4, p5, p6, p7, p8⟩ := hp.ex
    refine ⟨_, (pss_cons (ps_asg (pe_metD DM_Plan_takes T_Plan.cl hr (fun σ => Passes.at (passes_call (takes_of rfl rfl rfl rfl) (fun _ _ _ _ h => h)) σ) (pv 0) (pa_cons (pv 1) pa_nil)) (pg_name (i := 2) sc_choice_of.nd rfl (Or.inr rfl)))
 (pss_one (ps_ret (pe_callTy (kcall_tuple (K := K)) (by rfl) B.tuple' (by decide +kernel) (pa_cons (pe_lc (own := [("other", 3)]) (g := gName 3) (by rfl) sc_choice_of.nd (kpi_tup (K := K) (kpe_fld (K := K) (pv 0))) (blkOk_by (N := ["plan", "step", "taken", "other"]) (sc := defScope s_choice_of) (by decide +kernel)) (fun _ _ _ _ _ => (pg_name (i := 3) sc_choice_of.nd rfl (Or.inl rfl))) (fun _ _ _ _ _ => pts_one (pt_cmpR (kop_eqD (K := K) hr.units) (pe_metD DM_Plan_takes T_Plan.cl hr (fun σ => Passes.at passL σ) (pv 0) (pa_cons (pv 3) pa_nil)) (pv 2) (nomark _))) (fun _ _ _ _ _ => (pv 3))) pa_nil))))), ?_⟩
    refine ⟨_, rfl, x, dx, _, rfl, p1, rfl, _, rfl, x, n, d, rfl, hp, fun hn t l ht hlk => ?_, fun hn => q2 hn⟩
    have hlm : ∃ r ∈ d.steps, r.1 = n ∧ r.2.1 = l := by
      obtain ⟨r, hr1, hr2⟩ := List.mem_map.mp hn
      refine ⟨r, hr1, hr2, ?_⟩
      have := takes_of_mem hnd hr1
      rw [hr2, hlk] at this
      exact (Option.some.inj this).symm
    have hla : ∀ y ∈ l, Asc y := by
      obtain ⟨r, h1, _, h2⟩ := hlm
      rw [← h2]
      exact hasc r h1
    have p6' : H ts = some (.tup (d.steps.map fun r => V.str r.1)) := by
      rw [p6]
      unfold PlanD.names
      rw [List.map_map]
      rfl
    refine go_name ?_
    dsimp only
    refine go_ret ?_
    refine go_cb (go_cons ?_)
    refine lc_genT (enc := fun r : SRow => V.str r.1) (out := fun r => V.str r.1) (ws := d.steps) (p := fun r => decide (r.2.1 = l)) (by omega) (fun F h => ⟨_, rfl, x, C, dx, _, _, rfl, p1, T_Plan.cl, T_Plan.nS, rfl, h ts H (Same.refl H) p6'⟩) (fun r hr5 H2 Qb s2 h => ?_) (fun r hr5 _ H2 Q' s2 h => ⟨_, rfl, h H2 (Same.refl H2)⟩) fun D H3 nD s3 hD => ?_
    · have hrn : r.1 ∈ d.names := List.mem_map.mpr ⟨r, hr5, rfl⟩
      refine ⟨_, rfl, x, dx, _, rfl, s2 _ _ p1, rfl, _, rfl, x, r.1, d, rfl, hp.keep s2, fun _ t2 l2 ht2 hl2 => ?_, fun h => absurd hrn h⟩
      have e2 : l2 = r.2.1 := by
        rw [takes_of_mem hnd hr5] at hl2
        exact (Option.some.inj hl2).symm
      subst e2
      refine ⟨_, rfl, _, _, .tup (SqT.of ht2) (dpall_strs _), .tup (SqT.of (s2 _ _ ht)) (dpall_strs _), sh_tstrs (hasc r hr5), sh_tstrs hla, _, rfl, ?_⟩
      have := h H2 (Same.refl H2)
      rw [← eqv_tstrs (hasc r hr5) hla] at this
      exact this
    · refine ⟨D, _, rfl, .inl ⟨SqL.of hD, fun p np => ?_⟩⟩
      refine q1 hn p l _ hlk (s3.trans (same_upd np)) ?_
      rw [upd_same]
      unfold choiceOfD
      rw [List.map_map]
      rfl
abbrev s_choice_places : Stmt := topS 4
theorem sc_choice_places : FnScope ["plan", "step"] ["plan", "step"] (defScope s_choice_places) := ⟨rfl, rfl, rfl, by decide +kernel, rfl, by decide +kernel, by decide +kernel⟩
theorem ok_choice_places {k : Nat} {cs : ECs} {C : Addr} (B : Bl mg) (T_Plan : PlanC K mg C) (DM_Plan_takes : DefM P w K mg base (L2.CX P w) k C "takes" ["self", "step"] (spTakes cs C))
    (F : Src K mg "choice_places" s_choice_places ["plan", "step"]) : Def P w K mg base (L2.CX P w) (k + 1) "choice_places" ["plan", "step"] (spTakes cs C) := by
  refine F.okX sc_choice_places (fun vs H Q E h => ?_) (fun f cdv A outer s H vs Q E hr h => ?_)
  · obtain ⟨x, n, d, rfl, _⟩ := h
    rfl
  · obtain ⟨x, n, d, rfl, hp, q1, q2⟩ := h
    obtain ⟨dx, tp, tb, td, tg, ts, kt, kg, p1, p2, p3, p4, p5, p6, p7, p8⟩ := hp.ex
    refine ⟨_, (pss_one (ps_ret (pe_metD DM_Plan_takes T_Plan.cl hr (fun σ => Passes.at (passes_call (takes_of rfl rfl rfl rfl) (fun _ _ _ _ h => h)) σ) (pv 0) (pa_cons (pv 1) pa_nil)))), ?_⟩
    exact ⟨_, rfl, x, dx, _, rfl, p1, rfl, _, rfl, x, n, d, rfl, hp, q1, fun hn => q2 hn⟩
abbrev s__law_rows : Stmt := topS 40
theorem sc__law_rows : FnScope ["_law_box_here", "_law_kind"] ["_law_box_here"] (defScope s__law_rows) := ⟨rfl, rfl, rfl, by decide +kernel, rfl, by decide +kernel, by decide +kernel⟩
theorem ok_lrows {k : Nat} (B : Bl mg) (D__law_next : Def P w K mg base CX0 k "_law_next" ["_law_box_here", "_law_many"] spNext) (D__law_any : Def P w K mg base CX0 k "_law_any" ["_law_box_here"] spGRows) (D__law_free : Def P w K mg base CX0 k "_law_free" ["_law_box_here"] spGRows) (D__law_grown : Def P w K mg base CX0 k "_law_grown" ["_law_box_here"] spGRows)
    (F : Src K mg "_law_rows" s__law_rows ["_law_box_here"]) : Def P w K mg base CX0 (k + 1) "_law_rows" ["_law_box_here"] spGRows := by
  refine F.ok sc__law_rows (fun vs H Q E h => ?_) (fun f cdv A outer s H vs Q E hr h => ?_)
  · obtain ⟨b, l, rfl, _⟩ := h
    rfl
  · obtain ⟨b, l, rfl, hb, q⟩ := h
    refine ⟨_, (pss_cons (ps_asg (pe_def D__law_next hr pass0 (pa_cons (pv 0) (pa_cons pe_int pa_nil))) (pg_name (i := 1) sc__law_rows.nd rfl (Or.inl rfl)))
 (pss_cons (ps_if (pt_cmpR op_eq (pv 1) pe_int (nomark _)) (pss_one (ps_ret (pe_def D__law_any hr pass0 (pa_cons (pv 0) pa_nil)))) pss_nil)
 (pss_cons (ps_if (pt_cmpR op_eq (pv 1) pe_int (nomark _)) (pss_one (ps_ret (pe_def D__law_free hr pass0 (pa_cons (pv 0) pa_nil)))) pss_nil)
 (pss_one (ps_ret (pe_def D__law_grown hr pass0 (pa_cons (pv 0) pa_nil))))))), ?_⟩
    refine ⟨_, rfl, b, l, 3, rfl, by decide, by decide, hb, fun n H1 a0 a1 s1 => ?_⟩
    have go : spGRows [.ref b] H1 Q E0 := ⟨b, l, rfl, s1.b1, fun p ap as' prs srs H' s2 => q p ap as' prs srs H' (s1.trans s2)⟩
    refine ⟨_, rfl, rfl, _, rfl, ?_⟩
    refine ite2 (fun h1 => ?_) (fun h1 => ?_)
    · exact ⟨_, rfl, go⟩
    · refine ⟨_, rfl, rfl, _, rfl, ?_⟩
      refine ite2 (fun h2 => ?_) (fun h2 => ?_)
      · exact ⟨_, rfl, go⟩
      · exact ⟨_, rfl, go⟩
end

/-! ## gr13 -/
section
variable {P : Program} {w : World} {K : PySem.W.Frag} {mg : Str → Option Value} {base : Heap}
/-! the groups as the law gathers them -/
def sameS (a b : List Str) : Bool := decide (a.length = b.length ∧ ∀ w ∈ b, w ∈ a)
abbrev LG := List Str × List Str
def gAt (gs : List LG) (j : Nat) : LG := gs.getD j ([], [])
def addS (gs : List LG) (t : List Str) (n : Str) : List LG :=
  match (List.range gs.length).filter fun i => sameS (gAt gs i).1 t with
  | [] => gs ++ [(t, [n])]
  | j :: _ => gs.set j ((gAt gs j).1, (gAt gs j).2 ++ [n])
def groupsR (srs : List SRow) : List LG := srs.foldl (fun gs r => addS gs r.2.1 r.1) []
theorem groupsR_snoc (ss : List SRow) (s : SRow) : groupsR (ss ++ [s]) = addS (groupsR ss) s.2.1 s.1 := by
  unfold groupsR
  rw [List.foldl_append]
  rfl
/-- lists of sets and of groups in the heap -/
structure GrAt (H0 H : Hp) (S G : Addr) (gs : List LG) : Prop where
  ex : ∃ sa ga : List Addr, H S = some (.lst (sa.map V.ref)) ∧ H G = some (.lst (ga.map V.ref)) ∧ Paired (fun a (x : LG) => H a = some (.lst (x.1.map V.str)) ∧ a ≠ S ∧ a ≠ G) sa gs ∧ Paired (fun a (x : LG) => H a = some (.lst (x.2.map V.str)) ∧ H0 a = none) ga gs ∧ ga.Nodup ∧ S ∉ ga ∧ G ∉ ga ∧ ∀ a ∈ sa, a ∉ ga
theorem Paired.imp3 {α β : Type} {R S : α → β → Prop} : ∀ {l : List α} {m : List β}, (∀ a ∈ l, ∀ b, R a b → S a b) → Paired R l m → Paired S l m
  | _, _, _, .nil => .nil
  | _, _, h, .cons x y => .cons (h _ (List.mem_cons_self ..) _ x) (Paired.imp3 (fun a ha => h a (List.mem_cons_of_mem _ ha)) y)
theorem Paired.set {α β : Type} {R : α → β → Prop} : ∀ {l : List α} {m : List β} {j : Nat} {b : β}, Paired R l m → (∀ a, l[j]? = some a → R a b) → Paired R l (m.set j b)
  | _, _, _, _, .nil, _ => .nil
  | _, _, 0, _, .cons _ y, h => .cons (h _ rfl) y
  | _, _, j + 1, _, .cons x y, h => .cons x (Paired.set (j := j) y fun a ha => h a ha)
theorem dpall_ints {H : Hp} : ∀ l : List Nat, DpAll K H (l.map fun j : Nat => V.int (j : Int)) (l.map fun j : Nat => PyData.int (j : Int))
  | [] => .nil
  | _ :: l => .cons (.int _) (dpall_ints l)
theorem sh_ints (l : List Nat) : SeqAt.shaped (.list (l.map fun j : Nat => PyData.int (j : Int))) = true := by
  refine shaped_of ?_ ?_
  · show nbAll (l.map fun j : Nat => PyData.int (j : Int)) = true
    exact nbAll_of fun d hd => by
      obtain ⟨z, hz, rfl⟩ := List.mem_map.mp hd
      rfl
  · have := depthAll_le (ds := l.map fun j : Nat => PyData.int (j : Int)) (n := 0) fun d hd => by
      obtain ⟨z, hz, rfl⟩ := List.mem_map.mp hd
      simp [PyData.depth]
    simp only [PyData.depth]
    omega
theorem eqv_nil_strs {l : List Str} : (dStrs l).eqv (.list []) = decide (l = []) := by
  cases l with
  | nil => rfl
  | cons a l => rfl
abbrev s__law_groups : Stmt := topS 41
theorem sc__law_groups : FnScope ["_law_rows_here", "_law_sets", "_law_groups_here", "_law_word_here", "_law_taken", "_law_given", "_law_at", "_law_group", "_law_k", "_law_w"] ["_law_rows_here"] (defScope s__law_groups) := ⟨rfl, rfl, rfl, by decide +kernel, rfl, by decide +kernel, by decide +kernel⟩
def spGroups : Sp := fun vs H Q _ => ∃ (p ap as' : Addr) (srs : List SRow), vs = [.ref p] ∧ H p = some (.tup [.ref ap, .ref as']) ∧ SRows H as' srs ∧ srs.length ≤ 20 ∧ (∀ r ∈ srs, r.2.1.length ≤ 20 ∧ ∀ y ∈ r.2.1, Asc y) ∧
  ∀ (q S G : Addr) (H' : Hp), Same H H' → H' q = some (.lst [.ref S, .ref G]) → GrAt H H' S G (groupsR srs) → Q (.ref q) H'
theorem ok_groups {k : Nat} (B : Bl mg) (F : Src K mg "_law_groups" s__law_groups ["_law_rows_here"]) : Def P w K mg base CX0 (k + 1) "_law_groups" ["_law_rows_here"] spGroups := by
  refine F.ok sc__law_groups (fun vs H Q E h => ?_) (fun f cdv A outer s H vs Q E hr h => ?_)
  · obtain ⟨p, ap, as', srs, rfl, _⟩ := h
    rfl
  · obtain ⟨p, ap, as', srs, rfl, hp, hS, lS, lR, q⟩ := h
    refine ⟨_, (pss_cons (ps_asg (pe_lst pa_nil) (pg_name (i := 1) sc__law_groups.nd rfl (Or.inr rfl)))
 (pss_cons (ps_asg (pe_lst pa_nil) (pg_name (i := 2) sc__law_groups.nd rfl (Or.inl rfl)))
 (pss_cons (ps_for PassesOwn.never rfl (kpi_list (K := K) (pe_ix (kix_tup (K := K)) (pv 0) pe_int (fun _ _ => rfl))) (pg_tup rfl (pgs_cons (pg_name (i := 3) sc__law_groups.nd rfl (Or.inl rfl)) (pgs_cons (pg_name (i := 4) sc__law_groups.nd rfl (Or.inr rfl)) (pgs_cons (pg_name (i := 5) sc__law_groups.nd rfl (Or.inl rfl)) pgs_nil)))) (pss_cons (ps_setLc (i := 6) (own := [("_law_k", 8)]) (g := gName 8) (by rfl) sc__law_groups.nd rfl rfl (sw_true rfl rfl rfl (by decide +kernel)) (pi_range1 (by rfl) B.range (pa_cons (pe_callB (kcall_len (K := K)) (by rfl) B.len PySem.boot_len (pa_cons (pv 1) pa_nil)) pa_nil)) (blkOk_by (N := ["_law_rows_here", "_law_sets", "_law_groups_here", "_law_word_here", "_law_taken", "_law_given", "_law_at", "_law_group", "_law_k", "_law_w"]) (sc := defScope s__law_groups) (by decide +kernel)) (fun _ _ _ _ _ => (pg_name (i := 8) sc__law_groups.nd rfl (Or.inr rfl))) (fun _ _ _ _ _ => pts_one (PW.pt (pw_and (pt_cmpR op_eq (pe_callB (kcall_len (K := K)) (by rfl) B.len PySem.boot_len (pa_cons (pe_ix (kix_list (K := K)) (pv 1) (pv 8) (fun _ _ => rfl)) pa_nil)) (pe_callB (kcall_len (K := K)) (by rfl) B.len PySem.boot_len (pa_cons (pv 4) pa_nil)) (nomark _)) (pw_and1 (pt_cmpR (kop_eqD (K := K) hr.units) (pe_lc (own := [("_law_w", 9)]) (g := gName 9) (by rfl) sc__law_groups.nd (kpi_list (K := K) (pv 4)) (blkOk_by (N := ["_law_rows_here", "_law_sets", "_law_groups_here", "_law_word_here", "_law_taken", "_law_given", "_law_at", "_law_group", "_law_k", "_law_w"]) (sc := _) (by kernel_rfl)) (fun _ _ _ _ _ => (pg_name (i := 9) sc__law_groups.nd rfl (Or.inl rfl))) (fun _ _ _ _ _ => pts_one (pt_cmpR (kop_notIn (K := K)) (pv 9) (pe_ix (kix_list (K := K)) (pv 1) (pv 8) (fun _ _ => rfl)) rfl)) (fun _ _ _ _ _ => (pv 9))) (pe_lst pa_nil) (nomark _)))))) (fun _ _ _ _ _ => (pv 8)))
 (pss_one (ps_if (pt_cmpR (kop_eqD (K := K) hr.units) (pv 6) (pe_lst pa_nil) (nomark _)) (pss_cons (ps_expr (pe_bm PySem.F.plainAttrs_list PySem.F.slot_list_append PySem.F.type_list_append mt_append (pv 1) (pa_cons (pv 4) pa_nil)))
 (pss_one (ps_expr (pe_bm PySem.F.plainAttrs_list PySem.F.slot_list_append PySem.F.type_list_append mt_append (pv 2) (pa_cons (pe_lst (pa_cons (pv 3) pa_nil)) pa_nil))))) (pss_cons (ps_asg (pe_ix (kix_list (K := K)) (pv 2) (pe_ix (kix_list (K := K)) (pv 6) pe_int (fun _ _ => rfl)) (fun _ _ => rfl)) (pg_name (i := 7) sc__law_groups.nd rfl (Or.inl rfl)))
 (pss_one (ps_expr (pe_bm PySem.F.plainAttrs_list PySem.F.slot_list_append PySem.F.type_list_append mt_append (pv 7) (pa_cons (pv 3) pa_nil)))))))))
 (pss_one (ps_ret (pe_lst (pa_cons (pv 1) (pa_cons (pv 2) pa_nil)))))))), ?_⟩
    obtain ⟨us, hus, pus⟩ := id hS
    refine ⟨Nat.zero_le _, fun S nS => ?_⟩
    have s1 := same_upd (o := .lst []) nS
    refine ⟨Nat.zero_le _, fun G nG => ?_⟩
    have s2 := s1.trans (same_upd (o := .lst []) nG)
    have nGH := s1.free nG
    have nSG : S ≠ G := fun e => by rw [← e, upd_same] at nG; cases nG
    refine ⟨_, rfl, p, _, _, _, rfl, rfl, SqT.of (s2 _ _ hp), atI_nat (j := 1) rfl, as', rfl, ⟨_, SqL.of (s2 _ _ hus)⟩, for_list (K := K) (a := as') (xs := us.map V.ref) (fun i σ H' => ∃ (gs : List LG) (y3 y4 y5 y6 y7 : Option V), σ = [some (.ref p), some (.ref S), some (.ref G), y3, y4, y5, y6, y7, none, none] ∧ Same H H' ∧ gs = groupsR (srs.take i) ∧ gs.length ≤ i ∧ (∀ x ∈ gs, x.2.length ≤ i) ∧ GrAt H H' S G gs)
      ⟨[], none, none, none, none, none, rfl, s2, rfl, Nat.le_refl _, (fun x h => by cases h), ⟨[], [], by rw [upd_ne nSG]; exact upd_same, upd_same, .nil, .nil, .nil, by simp, by simp, by simp⟩⟩ (fun i σ H' _ ⟨_, _, _, _, _, _, _, sm, _⟩ => SqL.of (sm _ _ hus)) ?_ ?_⟩
    · rintro i x σ H' hi ⟨gs, y3, y4, y5, y6, y7, rfl, sm, hgs, lgs, lgx, ⟨sa, ga, eS, eG, pS, pG, nga, nSga, nGga, nsg⟩⟩
      obtain ⟨t, ht, rfl⟩ := map_get hi
      obtain ⟨r, hr1, b1, c1, e1, e2, e3, n1, n2⟩ := Paired.get pus ht
      obtain ⟨hrl, hra⟩ := lR r (List.mem_of_getElem? hr1)
      have hi2 : i < srs.length := by
        rcases Nat.lt_or_ge i srs.length with h | h
        · exact h
        · rw [List.getElem?_eq_none h] at hr1
          cases hr1
      have lsa : sa.length = gs.length := Paired.len pS
      have lga : ga.length = gs.length := Paired.len pG
      refine ⟨t, _, rfl, SqT.of (sm _ _ e1), rfl, _, _, rfl, _, _, rfl, _, _, rfl, rfl, ?_⟩
      refine go_asg ?_
      have setAt : ∀ {j : Nat} {H2 : Hp}, j < gs.length → Same H' H2 → ∃ a, (sa.map V.ref)[j]? = some (.ref a) ∧ H2 a = some (.lst ((gAt gs j).1.map V.str)) := fun {j H2} hj s3 => by
        obtain ⟨a, ha, h1, _⟩ := Paired.get' pS (List.getElem?_eq_getElem hj)
        refine ⟨a, by rw [List.getElem?_map, ha]; rfl, ?_⟩
        have : gAt gs j = gs[j] := by
          unfold gAt
          rw [List.getD_eq_getElem?_getD, List.getElem?_eq_getElem hj]
          rfl
        rw [this]
        exact s3 _ _ h1
      refine lc_genR (n := gs.length) (out := fun j => V.int j) (p := fun j => sameS (gAt gs j).1 r.2.1) (by omega) (fun F h => ?_) (fun j hj H2 Qb s3 h => ?_) (fun j hj _ H2 Q' s3 h => ⟨_, rfl, h H2 (Same.refl H2)⟩) fun D H3 nD s3 hD => ?_
      · refine ⟨_, rfl, S, _, rfl, .inl (SqL.of eS), ?_⟩
        rw [List.length_map, lsa]
        exact h H' (Same.refl H')
      · obtain ⟨a, ha1, ha2⟩ := setAt hj s3
        refine ⟨_, rfl, _, rfl, S, _, _, _, rfl, rfl, SqL.of (s3 _ _ eS), atI_nat ha1, a, _, rfl, .inl (SqL.of ha2), _, rfl, b1, _, rfl, .inl (SqL.of (s3 _ _ (sm _ _ e2))), rfl, _, rfl, ?_⟩
        have hh : sameS (gAt gs j).1 r.2.1 = (decide ((gAt gs j).1.length = r.2.1.length) && decide (r.2.1.filter (fun y => decide (y ∉ (gAt gs j).1)) = [])) := by
          unfold sameS
          rw [Bool.eq_iff_iff, Bool.and_eq_true, decide_eq_true_iff, decide_eq_true_iff, decide_eq_true_iff, List.filter_eq_nil_iff]
          exact ⟨fun ⟨x, y⟩ => ⟨x, fun w hw hq => (of_decide_eq_true hq) (y w hw)⟩, fun ⟨x, y⟩ => ⟨x, fun w hw => Decidable.byContradiction fun hq => y w hw (decide_eq_true hq)⟩⟩
        refine ite2 (fun h1 => ?_) (fun h1 => ?_)
        · have h1 : (gAt gs j).1.length = r.2.1.length := by
            simp only [List.length_map] at h1
            have := V.int.inj (of_decide_eq_true h1)
            omega
          refine go_test (go_op ?_)
          refine lc_gen (enc := V.str) (out := V.str) (ws := r.2.1) (p := fun y => decide (y ∉ (gAt gs j).1)) (by omega) (fun F h => ⟨_, rfl, h b1 H2 (Same.refl H2) (s3 _ _ (sm _ _ e2))⟩) (fun y _ H4 Qb2 s4 h2 => ?_) (fun y _ _ H4 Q' _ h2 => ⟨_, rfl, h2 H4 (Same.refl H4)⟩) fun D2 H4 nD2 s4 hD2 => ?_
          · refine ⟨_, rfl, _, rfl, _, rfl, S, _, _, _, rfl, rfl, SqL.of (s4 _ _ (s3 _ _ eS)), atI_nat ha1, a, _, rfl, .inl (SqL.of (s4 _ _ ha2)), rfl, flat_strs _, _, rfl, ?_⟩
            rw [inV_strs]
            have := h2 H4 (Same.refl H4)
            rw [decide_not] at this
            exact this
          · refine ⟨Nat.zero_le _, fun D3 nD3 => ?_⟩
            have u := same_upd (o := .lst []) nD3
            have fa : ∀ y ∈ r.2.1.filter (fun y => decide (y ∉ (gAt gs j).1)), Asc y := fun y hy => hra y (List.mem_filter.mp hy).1
            have shp : SeqAt.shaped (dStrs (r.2.1.filter (fun y => decide (y ∉ (gAt gs j).1)))) = true := shaped_of (nb_strs fa) (by simp only [PyData.depth]; have := depth_strs (r.2.1.filter (fun y => decide (y ∉ (gAt gs j).1))); omega)
            refine ⟨_, _, .lst (SqL.of (u _ _ hD2)) (dpall_strs _), .lst (SqL.of upd_same) .nil, shp, rfl, _, rfl, ?_⟩
            have := h _ (s4.trans u)
            rw [hh, decide_eq_true h1, Bool.true_and, ← eqv_nil_strs] at this
            exact this
        · have h1 : ¬ (gAt gs j).1.length = r.2.1.length := fun q => h1 (by
            simp only [List.length_map]
            rw [q]
            exact decide_eq_true rfl)
          have := h H2 (Same.refl H2)
          rw [hh, decide_eq_false h1, Bool.false_and] at this
          exact this
      · have eS3 := s3 _ _ eS
        have eG3 := s3 _ _ eG
        have pS3 := Paired.imp2 (fun _ _ h => (⟨s3 _ _ h.1, h.2⟩ : _ ∧ _ ∧ _)) pS
        have pG3 := Paired.imp2 (fun _ _ h => (⟨s3 _ _ h.1, h.2⟩ : _ ∧ _)) pG
        have sm3 := sm.trans s3
        have hsn : groupsR (srs.take (i + 1)) = addS gs r.2.1 r.1 := by rw [take_more hr1, groupsR_snoc, ← hgs]
        refine ⟨_, rfl, Nat.zero_le _, fun D3 nD3 => ?_⟩
        have u := same_upd (o := .lst []) nD3
        refine ⟨_, _, .lst (SqL.of (u _ _ hD)) (dpall_ints _), .lst (SqL.of upd_same) .nil, sh_ints _, rfl, _, rfl, ?_⟩
        unfold addS at hsn
        generalize hF : (List.range gs.length).filter (fun i => sameS (gAt gs i).1 r.2.1) = FF at hsn hD
        cases FF with
        | nil =>
          refine iteT ?_
          have nb1S : b1 ≠ S := ne_of_none e2 nS
          have nb1G : b1 ≠ G := ne_of_none e2 nGH
          have eS4 := u _ _ eS3
          have eG4 := u _ _ eG3
          refine ⟨_, rfl, .inl ⟨rfl, _, SqL.of eS4⟩, _, rfl, S, _, _, rfl, rfl, eS4, by rw [List.length_map]; exact small1000 (by omega), ?_⟩
          have eG5 : (upd (upd H3 D3 (.lst [])) S (.lst (sa.map V.ref ++ [V.ref b1]))) G = some (.lst (ga.map V.ref)) := by rw [upd_ne (Ne.symm nSG)]; exact eG4
          refine ⟨_, rfl, .inl ⟨rfl, _, SqL.of eG5⟩, _, rfl, by show 1 ≤ sizeLine; decide, fun g1 ng1 => ?_⟩
          have ng1' : (upd H3 D3 (.lst [])) g1 = none := by
            rw [upd_ne (fun e => by rw [e, upd_same] at ng1; cases ng1)] at ng1
            exact ng1
          have v1 := same_upd (o := .lst [.str r.1]) ng1
          have ng1H : H g1 = none := (sm3.trans u).free ng1'
          have ng1S : g1 ≠ S := fun e => by rw [e, upd_same] at ng1; cases ng1
          have ng1G : g1 ≠ G := fun e => by rw [e, eG5] at ng1; cases ng1
          refine ⟨G, _, _, rfl, rfl, v1 _ _ eG5, by rw [List.length_map]; exact small1000 (by omega), ?_⟩
          -- what stands
          have keep : ∀ {c : Addr} {o : HO}, (upd H3 D3 (.lst [])) c = some o → c ≠ S → c ≠ G → (upd (upd (upd (upd H3 D3 (.lst [])) S (.lst (sa.map V.ref ++ [V.ref b1]))) g1 (.lst [.str r.1])) G (.lst (ga.map V.ref ++ [V.ref g1]))) c = some o := fun {c o} h n1 n2 => by
            rw [upd_ne n2, upd_ne (ne_of_none h ng1'), upd_ne n1]
            exact h
          refine ⟨gs ++ [(r.2.1, [r.1])], _, _, _, _, _, rfl, ((((sm3.trans u).mut nS).mut ng1H).mut nGH), hsn.symm, by rw [List.length_append]; show _ + 1 ≤ _; omega, fun x hx => ?_, ⟨sa ++ [b1], ga ++ [g1], ?_, by rw [upd_same, List.map_append]; rfl, ?_, ?_, ?_, ?_, ?_, ?_⟩⟩
          · rcases List.mem_append.mp hx with h | h
            · have := lgx x h
              omega
            · rw [List.mem_singleton.mp h]
              show 1 ≤ _
              omega
          · rw [upd_ne nSG, upd_ne (Ne.symm ng1S), upd_same, List.map_append]
            rfl
          · exact PySem.Paired.snoc (Paired.imp2 (fun c x h => ⟨keep (u _ _ h.1) h.2.1 h.2.2, h.2⟩) pS3) ⟨keep (u _ _ (s3 _ _ (sm _ _ e2))) nb1S nb1G, nb1S, nb1G⟩
          · refine PySem.Paired.snoc (Paired.imp3 (fun c hc x h => ⟨keep (u _ _ h.1) (fun e => nSga (by rw [← e]; exact hc)) (fun e => nGga (by rw [← e]; exact hc)), h.2⟩) pG3) ⟨?_, ng1H⟩
            rw [upd_ne ng1G]
            exact upd_same
          · refine nodup_snoc nga fun h => ?_
            obtain ⟨jj, hjj, ejj⟩ := List.getElem_of_mem h
            obtain ⟨x, _, hx, _⟩ := Paired.get pG3 (List.getElem?_eq_getElem hjj)
            have := u _ _ hx
            rw [ejj, ng1'] at this
            cases this
          · intro h
            rcases List.mem_append.mp h with h | h
            · exact nSga h
            · exact ng1S (List.mem_singleton.mp h).symm
          · intro h
            rcases List.mem_append.mp h with h | h
            · exact nGga h
            · exact ng1G (List.mem_singleton.mp h).symm
          · intro c hc hg
            have hcH : ∃ o, (upd H3 D3 (.lst [])) c = some o := by
              rcases List.mem_append.mp hc with h | h
              · obtain ⟨jj, hjj, ejj⟩ := List.getElem_of_mem h
                obtain ⟨x, _, hx, _⟩ := Paired.get pS3 (List.getElem?_eq_getElem hjj)
                rw [ejj] at hx
                exact ⟨_, u _ _ hx⟩
              · rw [List.mem_singleton.mp h]
                exact ⟨_, u _ _ (s3 _ _ (sm _ _ e2))⟩
            rcases List.mem_append.mp hg with h' | h'
            · rcases List.mem_append.mp hc with h | h
              · exact nsg c h h'
              · rw [List.mem_singleton.mp h] at h'
                obtain ⟨jj, hjj, ejj⟩ := List.getElem_of_mem h'
                obtain ⟨x, _, _, hx⟩ := Paired.get pG3 (List.getElem?_eq_getElem hjj)
                rw [ejj, e2] at hx
                cases hx
            · obtain ⟨o, ho⟩ := hcH
              rw [List.mem_singleton.mp h', ng1'] at ho
              cases ho
        | cons j rest =>
          refine iteF ?_
          have hjm : j ∈ (List.range gs.length).filter (fun i => sameS (gAt gs i).1 r.2.1) := by rw [hF]; exact List.mem_cons_self ..
          have hj : j < gs.length := List.mem_range.mp (List.mem_filter.mp hjm).1
          obtain ⟨a, ha, hga, haH⟩ := Paired.get' pG3 (List.getElem?_eq_getElem hj)
          have hgj : (ga.map V.ref)[j]? = some (.ref a) := by rw [List.getElem?_map, ha]; rfl
          have eat : gAt gs j = gs[j] := by
            unfold gAt
            rw [List.getD_eq_getElem?_getD, List.getElem?_eq_getElem hj]
            rfl
          have ham := List.mem_of_getElem? ha
          have naS : a ≠ S := fun e => nSga (by rw [← e]; exact ham)
          have naG : a ≠ G := fun e => nGga (by rw [← e]; exact ham)
          refine ⟨_, rfl, _, rfl, D, _, _, _, rfl, rfl, SqL.of (u _ _ hD), atI_nat (j := 0) rfl, G, _, _, _, rfl, rfl, SqL.of (u _ _ eG3), atI_nat hgj, ?_⟩
          have hl2 := lgx _ (List.getElem_mem hj)
          refine ⟨_, rfl, .inl ⟨rfl, _, SqL.of (u _ _ hga)⟩, _, rfl, a, _, _, rfl, rfl, u _ _ hga, by rw [List.length_map]; exact small1000 (by omega), ?_⟩
          have keep : ∀ {c : Addr} {o o' : HO}, (upd H3 D3 (.lst [])) c = some o → c ≠ a → (upd (upd H3 D3 (.lst [])) a o') c = some o := fun {c o o'} h n1 => by
            rw [upd_ne n1]
            exact h
          refine ⟨gs.set j ((gAt gs j).1, (gAt gs j).2 ++ [r.1]), _, _, _, _, _, rfl, (sm3.trans u).mut haH, hsn.symm, by rw [List.length_set]; omega, fun x hx => ?_, ⟨sa, ga, keep (u _ _ eS3) (Ne.symm naS), keep (u _ _ eG3) (Ne.symm naG), ?_, ?_, nga, nSga, nGga, nsg⟩⟩
          · rcases List.mem_or_eq_of_mem_set hx with h | h
            · have := lgx x h
              omega
            · rw [h, eat]
              show (gs[j].2 ++ [r.1]).length ≤ _
              rw [List.length_append]
              show _ + 1 ≤ _
              omega
          · refine Paired.set (Paired.imp3 (fun c hc x h => ⟨keep (u _ _ h.1) (fun e => nsg c hc (by rw [e]; exact ham)), h.2⟩) pS3) fun c hc => ?_
            obtain ⟨x, hx, h1, h2⟩ := Paired.get pS3 hc
            have hxe : x = gs[j] := by
              rw [List.getElem?_eq_getElem hj] at hx
              exact (Option.some.inj hx).symm
            rw [hxe] at h1
            rw [eat]
            exact ⟨keep (u _ _ h1) (fun e => nsg c (List.mem_of_getElem? hc) (by rw [e]; exact ham)), h2⟩
          · refine ?_
            have base2 : ∀ (l : List Addr) (m : List LG) (jj : Nat), Paired (fun a (x : LG) => H3 a = some (.lst (x.2.map V.str)) ∧ H a = none) l m → l.Nodup → l[jj]? = some a → m[jj]? = some gs[j] → Paired (fun c (x : LG) => (upd (upd H3 D3 (.lst [])) a (.lst (gs[j].2.map V.str ++ [V.str r.1]))) c = some (.lst (x.2.map V.str)) ∧ H c = none) l (m.set jj ((gAt gs j).1, (gAt gs j).2 ++ [r.1])) := by
              intro l m jj hpm
              induction hpm generalizing jj with
              | nil => intro _ h; cases h
              | @cons c x l m hx hr ih =>
                intro hn hc hm
                rw [List.nodup_cons] at hn
                cases jj with
                | zero =>
                  cases hc
                  cases hm
                  refine .cons ⟨?_, hx.2⟩ (Paired.imp3 (fun c' hc' y h => ⟨keep (u _ _ h.1) (fun e => hn.1 (by rw [← e]; exact hc')), h.2⟩) hr)
                  rw [upd_same, eat]
                  show some (HO.lst _) = some (HO.lst ((gs[j].2 ++ [r.1]).map V.str))
                  rw [List.map_append]
                  rfl
                | succ jj =>
                  refine .cons ⟨keep (u _ _ hx.1) (fun e => hn.1 (by rw [e]; exact List.mem_of_getElem? hc)), hx.2⟩ (ih jj hn.2 hc hm)
            exact base2 ga gs j pG3 nga ha (List.getElem?_eq_getElem hj)
    · rintro σ H' ⟨gs, y3, y4, y5, y6, y7, rfl, sm, hgs, lgs, lgx, hg⟩
      rw [List.length_map, Paired.len pus, List.take_length] at hgs
      rw [hgs] at hg
      refine ⟨_, rfl, _, rfl, by show 2 ≤ sizeLine; decide, fun q3 nq3 => ?_⟩
      have u := same_upd (o := .lst [.ref S, .ref G]) nq3
      refine q q3 S G _ (sm.trans u) upd_same ?_
      obtain ⟨sa, ga, eS, eG, pS, pG, h1, h2, h3, h4⟩ := hg.ex
      exact ⟨sa, ga, u _ _ eS, u _ _ eG, Paired.imp2 (fun _ _ h => ⟨u _ _ h.1, h.2⟩) pS, Paired.imp2 (fun _ _ h => ⟨u _ _ h.1, h.2⟩) pG, h1, h2, h3, h4⟩
end

/-! ## pg13 -/
/-! the law's groups are the choices -/
theorem sub_of_len {a t : List Str} (ht : t.Nodup) (h : ∀ w ∈ t, w ∈ a) (hl : a.length = t.length) : ∀ w ∈ a, w ∈ t := fun w hw => Decidable.byContradiction fun hn => by
  have h1 := List.Nodup.length_le_of_subset (nodup_snoc ht hn) (l₂ := a) (fun y hy => by
    rcases List.mem_append.mp hy with h' | h'
    · exact h y h'
    · rw [List.mem_singleton.mp h']
      exact hw)
  rw [List.length_append] at h1
  have : t.length + 1 ≤ a.length := h1
  omega
theorem inOrd_congr {ps a t : List Str} (h : ∀ y ∈ ps, (y ∈ a ↔ y ∈ t)) : inOrd ps a = inOrd ps t := by
  unfold inOrd
  exact List.filter_congr fun y hy => by rw [decide_eq_decide]; exact h y hy
theorem mem_inOrd {ps a : List Str} {y : Str} : y ∈ inOrd ps a ↔ y ∈ ps ∧ y ∈ a := by
  unfold inOrd
  rw [List.mem_filter, decide_eq_true_iff]
theorem sameS_iff {ps a t : List Str} (ha : a.Nodup) (ha2 : ∀ y ∈ a, y ∈ ps) (ht : t.Nodup) (ht2 : ∀ y ∈ t, y ∈ ps) : sameS a t = true ↔ inOrd ps a = inOrd ps t := by
  unfold sameS
  rw [decide_eq_true_iff]
  refine ⟨fun ⟨h1, h2⟩ => inOrd_congr fun y _ => ⟨sub_of_len ht h2 h1 y, h2 y⟩, fun h => ?_⟩
  have h1 : ∀ w ∈ t, w ∈ a := fun w hw => (mem_inOrd.mp (by rw [h]; exact mem_inOrd.mpr ⟨ht2 w hw, hw⟩ : w ∈ inOrd ps a)).2
  have h2 : ∀ w ∈ a, w ∈ t := fun w hw => (mem_inOrd.mp (by rw [← h]; exact mem_inOrd.mpr ⟨ha2 w hw, hw⟩ : w ∈ inOrd ps t)).2
  exact ⟨Nat.le_antisymm (List.Nodup.length_le_of_subset ha h2) (List.Nodup.length_le_of_subset ht h1), h1⟩
def ordG (ps : List Str) (x : LG) : LG := (inOrd ps x.1, x.2)
structure KeysOk (ps : List Str) (gs : List LG) : Prop where
  sub : ∀ x ∈ gs, x.1.Nodup ∧ ∀ y ∈ x.1, y ∈ ps
  nd : (gs.map fun x => inOrd ps x.1).Nodup
theorem gAt_get {gs : List LG} {j : Nat} (hj : j < gs.length) : gAt gs j = gs[j] := by
  unfold gAt
  rw [List.getD_eq_getElem?_getD, List.getElem?_eq_getElem hj]
  rfl
theorem addS_step {ps : List Str} {gs : List LG} {t : List Str} {n : Str} (hk : KeysOk ps gs) (ht : t.Nodup) (ht2 : ∀ y ∈ t, y ∈ ps) : addG (gs.map (ordG ps)) (inOrd ps t) n = (addS gs t n).map (ordG ps) ∧ KeysOk ps (addS gs t n) := by
  have hin : inOrd ps t ∈ (gs.map (ordG ps)).map (·.1) ↔ ∃ j, j < gs.length ∧ sameS (gAt gs j).1 t = true := by
    rw [List.map_map]
    constructor
    · intro h
      obtain ⟨x, hx, e⟩ := List.mem_map.mp h
      obtain ⟨j, hj, rfl⟩ := List.getElem_of_mem hx
      refine ⟨j, hj, ?_⟩
      rw [gAt_get hj]
      obtain ⟨k1, k2⟩ := hk.sub _ hx
      exact (sameS_iff k1 k2 ht ht2).mpr e
    · rintro ⟨j, hj, h⟩
      rw [gAt_get hj] at h
      obtain ⟨k1, k2⟩ := hk.sub _ (List.getElem_mem hj)
      exact List.mem_map.mpr ⟨gs[j], List.getElem_mem hj, (sameS_iff k1 k2 ht ht2).mp h⟩
  unfold addS
  generalize hF : (List.range gs.length).filter (fun i => sameS (gAt gs i).1 t) = FF
  cases FF with
  | nil =>
    have hno : ¬ ∃ j, j < gs.length ∧ sameS (gAt gs j).1 t = true := fun ⟨j, hj, h⟩ => by
      have : j ∈ (List.range gs.length).filter (fun i => sameS (gAt gs i).1 t) := List.mem_filter.mpr ⟨List.mem_range.mpr hj, h⟩
      rw [hF] at this
      cases this
    have hn2 : inOrd ps t ∉ (gs.map (ordG ps)).map (·.1) := fun h => hno (hin.mp h)
    refine ⟨?_, ⟨fun x hx => ?_, ?_⟩⟩
    · unfold addG
      rw [if_neg hn2, List.map_append]
      rfl
    · rcases List.mem_append.mp hx with h | h
      · exact hk.sub x h
      · rw [List.mem_singleton.mp h]
        exact ⟨ht, ht2⟩
    · rw [List.map_append]
      refine nodup_snoc hk.nd ?_
      rw [List.map_map] at hn2
      exact hn2
  | cons j rest =>
    have hjm : j ∈ (List.range gs.length).filter (fun i => sameS (gAt gs i).1 t) := by rw [hF]; exact List.mem_cons_self ..
    obtain ⟨hj1, hj2⟩ := List.mem_filter.mp hjm
    have hj : j < gs.length := List.mem_range.mp hj1
    have hyes : inOrd ps t ∈ (gs.map (ordG ps)).map (·.1) := hin.mpr ⟨j, hj, hj2⟩
    show addG (gs.map (ordG ps)) (inOrd ps t) n = (gs.set j ((gAt gs j).1, (gAt gs j).2 ++ [n])).map (ordG ps) ∧ KeysOk ps (gs.set j ((gAt gs j).1, (gAt gs j).2 ++ [n]))
    rw [gAt_get hj] at hj2 ⊢
    obtain ⟨k1, k2⟩ := hk.sub _ (List.getElem_mem hj)
    have hkey := (sameS_iff k1 k2 ht ht2).mp hj2
    refine ⟨?_, ⟨fun x hx => ?_, ?_⟩⟩
    · unfold addG
      rw [if_pos hyes]
      refine List.ext_getElem (by simp) fun i h1 h2 => ?_
      have hi : i < gs.length := by simpa using h1
      rw [List.getElem_map, List.getElem_map, List.getElem_map, List.getElem_set]
      by_cases e : j = i
      · subst e
        have hk' : (ordG ps gs[j]).1 = inOrd ps t := hkey
        rw [if_pos rfl, if_pos hk']
        rfl
      · have hne : ¬ (ordG ps gs[i]).1 = inOrd ps t := fun q => by
          have q2 : inOrd ps gs[i].1 = inOrd ps gs[j].1 := q.trans hkey.symm
          have hnd := hk.nd
          have := (List.getElem_inj hnd (i := i) (j := j) (h₀ := by rw [List.length_map]; exact hi) (h₁ := by rw [List.length_map]; exact hj)).mp (by rw [List.getElem_map, List.getElem_map]; exact q2)
          exact e this.symm
        rw [if_neg e, if_neg hne]
    · rcases List.mem_or_eq_of_mem_set hx with h | h
      · exact hk.sub x h
      · rw [h]
        exact ⟨k1, k2⟩
    · have : (gs.set j (gs[j].1, gs[j].2 ++ [n])).map (fun x => inOrd ps x.1) = gs.map fun x => inOrd ps x.1 := by
        refine List.ext_getElem (by simp) fun i h1 h2 => ?_
        rw [List.getElem_map, List.getElem_map, List.getElem_set]
        split
        · rename_i e
          subst e
          rfl
        · rfl
      rw [this]
      exact hk.nd
theorem fold_choices {ps : List Str} : ∀ {srs : List SRow} {gs : List LG}, KeysOk ps gs → (∀ r ∈ srs, r.2.1.Nodup ∧ ∀ y ∈ r.2.1, y ∈ ps) →
    (srs.map (ordRow ps)).foldl (fun gs s => addG gs s.2.1 s.1) (gs.map (ordG ps)) = (srs.foldl (fun gs r => addS gs r.2.1 r.1) gs).map (ordG ps) ∧ KeysOk ps (srs.foldl (fun gs r => addS gs r.2.1 r.1) gs)
  | [], gs, hk, _ => ⟨rfl, hk⟩
  | r :: srs, gs, hk, h => by
    obtain ⟨h1, h2⟩ := h r (List.mem_cons_self ..)
    obtain ⟨e, hk2⟩ := addS_step (n := r.1) hk h1 h2
    rw [List.map_cons, List.foldl_cons, List.foldl_cons]
    have : addG (gs.map (ordG ps)) (ordRow ps r).2.1 (ordRow ps r).1 = (addS gs r.2.1 r.1).map (ordG ps) := e
    rw [this]
    exact fold_choices hk2 fun r hr => h r (List.mem_cons_of_mem _ hr)
theorem groups_choices {ps : List Str} {srs : List SRow} (h : ∀ r ∈ srs, r.2.1.Nodup ∧ ∀ y ∈ r.2.1, y ∈ ps) : choiceT (srs.map (ordRow ps)) = (groupsR srs).map (ordG ps) ∧ KeysOk ps (groupsR srs) :=
  fold_choices (gs := []) ⟨by simp, by simp⟩ h
/-! what is in a choice -/
def GInv (ss : List SRow) (gs : List LG) : Prop := (∀ x ∈ gs, x.2 = (ss.filter fun s => decide (s.2.1 = x.1)).map (·.1)) ∧ ∀ s ∈ ss, s.2.1 ∈ gs.map (·.1)
theorem filt_snoc (ss : List SRow) (s : SRow) (k : List Str) : ((ss ++ [s]).filter fun s => decide (s.2.1 = k)).map (·.1) = (ss.filter fun s => decide (s.2.1 = k)).map (·.1) ++ if s.2.1 = k then [s.1] else [] := by
  rw [List.filter_append, List.map_append, List.filter_cons, List.filter_nil]
  by_cases e : s.2.1 = k
  · rw [if_pos e, if_pos (decide_eq_true e)]
    rfl
  · rw [if_neg e, if_neg (by rw [decide_eq_false e]; exact Bool.false_ne_true)]
    rfl
theorem GInv.step {ss : List SRow} {gs : List LG} {s : SRow} (h : GInv ss gs) : GInv (ss ++ [s]) (addG gs s.2.1 s.1) := by
  obtain ⟨h1, h2⟩ := h
  unfold addG
  by_cases hin : s.2.1 ∈ gs.map (·.1)
  · rw [if_pos hin]
    refine ⟨fun x hx => ?_, fun r hr => ?_⟩
    · obtain ⟨y, hy, rfl⟩ := List.mem_map.mp hx
      by_cases e : y.1 = s.2.1
      · rw [if_pos e, filt_snoc, if_pos e.symm, ← h1 y hy]
      · rw [if_neg e, filt_snoc, if_neg (Ne.symm e), List.append_nil]
        exact h1 y hy
    · have hk : (gs.map fun x => if x.1 = s.2.1 then ((x.1, x.2 ++ [s.1]) : LG) else x).map (·.1) = gs.map (·.1) := by
        rw [List.map_map]
        refine List.map_congr_left fun y _ => ?_
        show (if y.1 = s.2.1 then ((y.1, y.2 ++ [s.1]) : LG) else y).1 = y.1
        split <;> rfl
      rw [hk]
      rcases List.mem_append.mp hr with h | h
      · exact h2 r h
      · rw [List.mem_singleton.mp h]
        exact hin
  · rw [if_neg hin]
    have hnil : (ss.filter fun r => decide (r.2.1 = s.2.1)) = [] := List.filter_eq_nil_iff.mpr fun r hr hq => hin (by rw [← of_decide_eq_true hq]; exact h2 r hr)
    refine ⟨fun x hx => ?_, fun r hr => ?_⟩
    · rcases List.mem_append.mp hx with h | h
      · have hne : x.1 ≠ s.2.1 := fun e => hin (by rw [← e]; exact List.mem_map.mpr ⟨x, h, rfl⟩)
        rw [filt_snoc, if_neg (Ne.symm hne), List.append_nil]
        exact h1 x h
      · rw [List.mem_singleton.mp h, filt_snoc, if_pos rfl, hnil]
        rfl
    · rw [List.map_append]
      rcases List.mem_append.mp hr with h | h
      · exact List.mem_append_left _ (h2 r h)
      · rw [List.mem_singleton.mp h]
        exact List.mem_append_right _ (List.mem_singleton.mpr rfl)
theorem fold_ginv : ∀ {ss pre : List SRow} {gs : List LG}, GInv pre gs → GInv (pre ++ ss) (ss.foldl (fun gs s => addG gs s.2.1 s.1) gs)
  | [], pre, gs, h => by rw [List.append_nil]; exact h
  | s :: ss, pre, gs, h => by
    have := fold_ginv (ss := ss) (h.step (s := s))
    rw [List.append_assoc] at this
    exact this
theorem choice_ginv (ss : List SRow) : GInv ss (choiceT ss) := fold_ginv (pre := []) (gs := []) ⟨(fun x h => by cases h), (fun s h => by cases h)⟩
theorem addG_len (gs : List LG) (k : List Str) (n : Str) : (addG gs k n).length ≤ gs.length + 1 := by
  unfold addG
  split
  · rw [List.length_map]
    omega
  · rw [List.length_append]
    exact Nat.le_refl _
theorem fold_len : ∀ (ss : List SRow) (gs : List LG), (ss.foldl (fun gs s => addG gs s.2.1 s.1) gs).length ≤ gs.length + ss.length
  | [], _ => Nat.le_refl _
  | s :: ss, gs => by
    have h1 := fold_len ss (addG gs s.2.1 s.1)
    have h2 := addG_len gs s.2.1 s.1
    rw [List.foldl_cons, List.length_cons]
    omega
theorem choice_len (ss : List SRow) : (choiceT ss).length ≤ ss.length := by
  have := fold_len ss []
  rw [List.length_nil, Nat.zero_add] at this
  exact this

/-! ## k13 -/
section
variable {P : Program} {w : World} {K : PySem.W.Frag} {mg : Str → Option Value} {base : Heap}
abbrev s__law_refused : Stmt := topS 43
theorem sc__law_refused : FnScope ["_law_plan", "_law_name", "_law_way", "_law_wrong", "e"] ["_law_plan", "_law_name", "_law_way"] (defScope s__law_refused) := ⟨rfl, rfl, rfl, by decide +kernel, rfl, by decide +kernel, by decide +kernel⟩
def spRefused (C : Addr) : Sp := fun vs H Q _ => ∃ (x : Addr) (n : Str) (way : Int) (d : PlanD), vs = [.ref x, .str n, .int way] ∧ PlanAt H C x d ∧ d.names.Nodup ∧ d.steps.length ≤ 16 ∧ AscPlan d ∧ n ∉ d.names ∧ ∀ H', Same H H' → Q (.bl true) H'
theorem ok_refused {k : Nat} {cs : ECs} {C f_UnknownName : Addr} (B : Bl mg) (T_Plan : PlanC K mg C) (X_UnknownName : ErrTxt P K mg false "UnknownName" cs.unknown f_UnknownName ["name"])
    (D_choice_of : Def P w K mg base (L2.CX P w) k "choice_of" ["plan", "step"] (spChoiceOf cs C)) (D_choice_places : Def P w K mg base (L2.CX P w) k "choice_places" ["plan", "step"] (spTakes cs C))
    (F : Src K mg "_law_refused" s__law_refused ["_law_plan", "_law_name", "_law_way"]) : Def P w K mg base CX0 (k + 1) "_law_refused" ["_law_plan", "_law_name", "_law_way"] (spRefused C) := by
  refine F.ok sc__law_refused (fun vs H Q E h => ?_) (fun f cdv A outer s H vs Q E hr h => ?_)
  · obtain ⟨x, n, way, d, rfl, _⟩ := h
    rfl
  · obtain ⟨x, n, way, d, rfl, hp, hnd, hl, hasc, hn, q⟩ := h
    refine ⟨_, (pss_cons (ps_asg pe_non (pg_name (i := 3) sc__law_refused.nd rfl (Or.inl rfl)))
 (C8.pss_cut (ps_try_as (i := 4) rfl rfl sc__law_refused.nd rfl rfl ⟨rfl, by decide, .inl X_UnknownName.gC⟩ takes0 (fun W pn xe tk _ => (pss_one (ps_if (pt_cmpR op_eq (pv 2) pe_int (nomark _)) (pss_one (ps_expr (pe_defS D_choice_of hr (fun σ => passAt tk σ) (pa_cons (pv 0) (pa_cons (pv 1) pa_nil))))) (pss_one (ps_expr (pe_defS D_choice_places hr (fun σ => passAt tk σ) (pa_cons (pv 0) (pa_cons (pv 1) pa_nil)))))))) (fun a oe cls d pn hz hf => (pss_one (ps_asg (pe_xf X_UnknownName.xf (X_UnknownName.noN _ (by decide)) hz hf (pv 4)) (pg_name (i := 3) sc__law_refused.nd rfl (Or.inl rfl))))))
 (pss_one (ps_ret (pe_cmpR op_eq (pv 3) (pv 1) (nomark _)))))), ?_⟩
    refine ⟨fun σ' H' => σ' = [some (.ref x), some (.str n), some (.int way), some (.str n), none] ∧ Same H H', ?_, ?_⟩
    · refine ⟨_, rfl, rfl, _, rfl, ?_⟩
      refine ite2 (fun h1 => ?_) (fun h1 => ?_)
      · refine ⟨_, rfl, _, rfl, x, n, d, rfl, hp, hnd, hl, hasc, fun h => absurd h hn, fun _ H3 dd s3 nd hd => ?_⟩
        refine ⟨true, X_UnknownName.te, fun _ a1 ha1 => ?_, fun e => Bool.noConfusion e⟩
        exact ⟨_, rfl, rfl, rfl, dd, _, _, rfl, hd, rfl, rfl, s3⟩
      · refine ⟨_, rfl, _, rfl, x, n, d, rfl, hp, fun h => absurd h hn, fun _ H3 dd s3 nd hd => ?_⟩
        refine ⟨true, X_UnknownName.te, fun _ a1 ha1 => ?_, fun e => Bool.noConfusion e⟩
        exact ⟨_, rfl, rfl, rfl, dd, _, _, rfl, hd, rfl, rfl, s3⟩
    · rintro σ' H' ⟨rfl, s'⟩
      refine ⟨_, rfl, _, rfl, rfl, ?_⟩
      have e : decide (V.str n = V.str n) = true := decide_eq_true rfl
      rw [e]
      exact q H' s'
/-! the law -/
def turnRow (r : SRow) (i : Nat) : SRow := (r.1, r.2.1.drop i ++ r.2.1.take i, r.2.2.reverse)
theorem mem_rot {l : List Str} {j : Nat} {y : Str} : y ∈ l.drop j ++ l.take j ↔ y ∈ l := (perm_rot l j).mem_iff
theorem turn_names : ∀ {trs srs : List SRow}, Paired (fun (t r : SRow) => ∃ j, t = turnRow r j) trs srs → trs.map (·.1) = srs.map (·.1)
  | _, _, .nil => rfl
  | _, _, .cons ⟨_, h⟩ r => by rw [List.map_cons, List.map_cons, turn_names r, h]; rfl
theorem turn_ord (ps : List Str) : ∀ {trs srs : List SRow}, Paired (fun (t r : SRow) => ∃ j, t = turnRow r j) trs srs → trs.map (ordRow ps) = srs.map (ordRow ps)
  | _, _, .nil => rfl
  | _, _, @Paired.cons _ _ _ _ r _ _ ⟨j, h⟩ hr => by
    have e : ordRow ps (turnRow r j) = ordRow ps r := by
      unfold ordRow turnRow
      rw [inOrd_congr fun y _ => mem_rot, inOrd_congr (a := r.2.2.reverse) fun y _ => List.mem_reverse]
    rw [List.map_cons, List.map_cons, turn_ord ps hr, h, e]
theorem turn_good {prs : List (Str × Int)} {trs srs : List SRow} (h : Paired (fun (t r : SRow) => ∃ j, t = turnRow r j) trs srs) (g : GoodRows prs srs) : GoodRows prs trs := by
  have hl := Paired.len h
  refine ⟨g.pw, g.pn, fun t ht => ?_, by rw [turn_names h]; exact g.sn, g.p1, g.p7, by rw [hl]; exact g.s1, by rw [hl]; exact g.s13⟩
  obtain ⟨i, hi, rfl⟩ := List.getElem_of_mem ht
  obtain ⟨r, hr, j, e⟩ := Paired.get h (List.getElem?_eq_getElem hi)
  obtain ⟨a0, a1, a2, a3, a4, a5⟩ := g.sw r (List.mem_of_getElem? hr)
  rw [e]
  refine ⟨a0, fun q => a1 ?_, (perm_rot _ _).nodup_iff.mpr a2, fun y hy => a3 y (mem_rot.mp hy), (List.reverse_perm _).nodup_iff.mpr a4, fun y hy => a5 y (List.mem_reverse.mp hy)⟩
  have := (perm_rot r.2.1 j).length_eq
  rw [show r.2.1.drop j ++ r.2.1.take j = [] from q] at this
  exact List.length_eq_zero_iff.mp this.symm
/-- [tuple(g) for g in gs] -/
theorem lc_tups {σ : L2.St} {H : Hp} {j r : Nat} {a : Addr} {ga : List Addr} {gs : List (List Str)} {Q : VK} (ha : H a = some (.lst (ga.map V.ref))) (hp : Paired (fun c g => H c = some (.lst (g.map V.str))) ga gs) (hl : gs.length ≤ 1000)
    (hσ : σ[j]? = some (some (.ref a))) (hr : r < σ.length) (q : ∀ (D : Addr) (ts : List Addr) (H' : Hp), H D = none → Same H H' → H' D = some (.lst (ts.map V.ref)) → Paired (fun t g => H' t = some (.tup (g.map V.str))) ts gs → Q (.ref D) H') :
    tLc (iList K (tVar j)) (gName r) tYes (tCB (rTupQ K) (tCons (tVar r) tNil)) [r] σ H Q := by
  refine ⟨_, hσ, a, rfl, ⟨_, SqL.of ha⟩, fun D nD => lc_list (K := K) (a := a) (xs := ga.map V.ref) (fun i H' => ∃ ts : List Addr, Same H H' ∧ H' D = some (.lst (ts.map V.ref)) ∧ Paired (fun t g => H' t = some (.tup (g.map V.str))) ts (gs.take i)) ⟨[], same_upd nD, upd_same, .nil⟩ (fun i H' _ ⟨_, sm, _⟩ => SqL.of (sm _ _ ha)) ?_ ?_⟩
  · rintro i x H' hi ⟨ts, sm, hD, pt⟩
    obtain ⟨c, hc, rfl⟩ := map_get hi
    obtain ⟨g, hg, hcg⟩ := Paired.get hp hc
    refine ⟨?_, yes_if ?_⟩
    · show ((σ.set r none).set r (some (V.ref c))).set r none = σ.set r none
      rw [List.set_set, List.set_set]
    · have hv : ((σ.set r none).set r (some (V.ref c)))[r]? = some (some (V.ref c)) := by
        rw [List.getElem?_set_self (by rw [List.length_set]; exact hr)]
      refine ⟨_, hv, c, _, rfl, .inl ⟨SqL.of (sm _ _ hcg), fun t nt => ?_⟩⟩
      have u := same_upd (o := .tup (g.map V.str)) nt
      have ltl : ts.length ≤ i := by
        rw [Paired.len pt, List.length_take]
        omega
      have hi3 : i < gs.length := by
        rcases Nat.lt_or_ge i gs.length with h | h
        · exact h
        · rw [List.getElem?_eq_none h] at hg
          cases hg
      refine ⟨_, u _ _ hD, by rw [List.length_map]; exact small1000 (by omega), ts ++ [t], (sm.trans u).mut nD, by rw [upd_same, List.map_append]; rfl, ?_⟩
      have nJD : ∀ {c : Addr} {xs : List V}, (upd H' t (.tup (g.map V.str))) c = some (.tup xs) → (upd (upd H' t (.tup (g.map V.str))) D (.lst (ts.map V.ref ++ [V.ref t]))) c = some (.tup xs) := fun {c xs} h => by
        rw [upd_ne (fun q => by rw [q, u _ _ hD] at h; cases h)]
        exact h
      rw [take_more hg]
      exact PySem.Paired.snoc (Paired.imp2 (fun c g h => nJD (u _ _ h)) pt) (nJD upd_same)
  · rintro H' ⟨ts, sm, hD, pt⟩
    rw [List.length_map, Paired.len hp, List.take_length] at pt
    exact q D ts H' nD sm hD pt
def tupsD (gs : List (List Str)) : PyData := .list (gs.map tStrs)
theorem dp_tups {H : Hp} : ∀ {ts : List Addr} {gs : List (List Str)}, Paired (fun t g => H t = some (.tup (g.map V.str))) ts gs → DpAll K H (ts.map V.ref) (gs.map tStrs)
  | _, _, .nil => .nil
  | _, _, .cons h r => .cons (.tup (SqT.of h) (dpall_strs _)) (dp_tups r)
theorem nb_tups {gs : List (List Str)} (h : ∀ g ∈ gs, ∀ y ∈ g, Asc y) : nb (tupsD gs) = true := by
  show nbAll (gs.map tStrs) = true
  exact nbAll_of fun d hd => by
    obtain ⟨g, hg, rfl⟩ := List.mem_map.mp hd
    exact nb_tstrs (h g hg)
theorem sh_tups {gs : List (List Str)} (h : ∀ g ∈ gs, ∀ y ∈ g, Asc y) : SeqAt.shaped (tupsD gs) = true := shaped_of (nb_tups h) (by
  unfold tupsD
  have := depthAll_le (ds := gs.map tStrs) (n := 2) fun d hd => by
    obtain ⟨g, hg, rfl⟩ := List.mem_map.mp hd
    unfold tStrs
    have := depth_strs g
    simp only [PyData.depth]
    omega
  simp only [PyData.depth]
  omega)
theorem go_tC {v : V} {σ : L2.St} {H : Hp} {Q : VK} (h : Q v H) : tC v σ H Q := h
theorem go_bm {K' : PySem.W.Frag} {T : String} {r : V → List V → Hp → VK → Prop} {to : TE} {t : TA} {σ : L2.St} {H : Hp} {Q : VK} (h : to σ H fun x H1 => tyV K' T x H1 ∧ t σ H1 fun xs H2 => r x xs H2 Q) : tBM K' T r to t σ H Q := h
theorem join_len : ∀ ys : List Str, (Str.join "" ys).length = (ys.map (·.length)).sum
  | [] => rfl
  | [x] => by simp [Str.join]
  | x :: y :: r => by
    have ih := join_len (y :: r)
    show (x ++ "" ++ Str.join "" (y :: r)).length = _
    rw [Str.length_append, Str.length_append, ih, List.map_cons, List.sum_cons]
    rfl
theorem le_sum {l : List Nat} {n : Nat} (h : n ∈ l) : n ≤ l.sum := by
  induction l with
  | nil => cases h
  | cons a l ih =>
    rw [List.sum_cons]
    rcases List.mem_cons.mp h with h | h
    · omega
    · have := ih h
      omega
theorem tjoin_eq (ys : List Str) : Txt.join "" ys = Str.join "" ys := PySem.StrLaws.glued_eq_join _ _
theorem strange_new {ys : List Str} : (("z" : Str) ++ Txt.join "" ys) ∉ ys := fun h => by
  have h1 := le_sum (List.mem_map.mpr ⟨_, h, rfl⟩ : (("z" : Str) ++ Txt.join "" ys).length ∈ ys.map (·.length))
  rw [Str.length_append, tjoin_eq, join_len] at h1
  have : (("z" : Str)).length = 1 := rfl
  omega
theorem sum_le {l : List Nat} {m : Nat} (h : ∀ n ∈ l, n ≤ m) : l.sum ≤ l.length * m := by
  induction l with
  | nil => simp
  | cons a l ih =>
    rw [List.sum_cons, List.length_cons, Nat.succ_mul]
    have h1 := h a (List.mem_cons_self ..)
    have h2 := ih fun n hn => h n (List.mem_cons_of_mem _ hn)
    omega
abbrev s_law : Stmt := topS 44
theorem sc_law : FnScope ["_law_script", "_law_box_here", "_law_rows_here", "_law_turned", "_law_word_here", "_law_taken", "_law_given", "_law_at", "_law_plan", "_law_sets", "_law_groups_here", "_law_told", "_law_words_here", "_law_k", "_law_step", "_law_strange", "_law_row", "_law_group"] ["_law_script"] (defScope s_law) := ⟨rfl, rfl, rfl, by decide +kernel, rfl, by decide +kernel, by decide +kernel⟩
def spLaw (K : PySem.W.Frag) : Sp := fun vs H Q _ => ∃ (a : Addr) (ns : List Int), vs = [.ref a] ∧ SqL K H a (ns.map V.int) ∧ ns.length ≤ 63 ∧ ∀ H', Q (.bl true) H'
theorem ok_law {k : Nat} {cs : ECs} {C : Addr} (B : Bl mg) (T_Plan : PlanC K mg C) (m_Plan : mg "Plan" = some (.ref C)) (D__law_box : Def P w K mg base CX0 (k + 1) "_law_box" ["_law_script"] (spBox K)) (D__law_next : Def P w K mg base CX0 (k + 1) "_law_next" ["_law_box_here", "_law_many"] spNext)
    (D__law_rows : Def P w K mg base CX0 (k + 1) "_law_rows" ["_law_box_here"] spGRows) (D__law_groups : Def P w K mg base CX0 (k + 1) "_law_groups" ["_law_rows_here"] spGroups) (D_choices : Def P w K mg base CX0 (k + 1) "choices" ["plan"] (spChoices C))
    (D_choice_of : Def P w K mg base (L2.CX P w) (k + 1) "choice_of" ["plan", "step"] (spChoiceOf cs C)) (D_choice_places : Def P w K mg base (L2.CX P w) (k + 1) "choice_places" ["plan", "step"] (spTakes cs C)) (D__law_refused : Def P w K mg base CX0 (k + 1) "_law_refused" ["_law_plan", "_law_name", "_law_way"] (spRefused C))
    (DI_Plan : DefI P w K mg base (L2.CX P w) k C ["self", "places", "steps"] (spInit K cs C))
    {f : Addr} {fd : FuncData} (F : Fun K "law" "law" s_law f fd) : FnOk P w K mg base CX0 (k + 2) f fd ["_law_script"] (spLaw K) := by
  refine F.ok sc_law (fun vs H Q E h => ?_) (fun cdv A outer s H vs Q E hr h => ?_)
  · obtain ⟨a, ns, rfl, _⟩ := h
    rfl
  · obtain ⟨a, ns, rfl, hS, hlen, q⟩ := h
    refine ⟨_, (pss_cons (ps_asg (pe_def D__law_box hr pass0 (pa_cons (pv 0) pa_nil)) (pg_name (i := 1) sc_law.nd rfl (Or.inl rfl)))
 (pss_cons (ps_asg (pe_def D__law_rows hr pass0 (pa_cons (pv 1) pa_nil)) (pg_name (i := 2) sc_law.nd rfl (Or.inl rfl)))
 (pss_cons (ps_asg (pe_lst pa_nil) (pg_name (i := 3) sc_law.nd rfl (Or.inl rfl)))
 (pss_cons (ps_for PassesOwn.never rfl (kpi_list (K := K) (pe_ix (kix_tup (K := K)) (pv 2) pe_int (fun _ _ => rfl))) (pg_tup rfl (pgs_cons (pg_name (i := 4) sc_law.nd rfl (Or.inl rfl)) (pgs_cons (pg_name (i := 5) sc_law.nd rfl (Or.inl rfl)) (pgs_cons (pg_name (i := 6) sc_law.nd rfl (Or.inl rfl)) pgs_nil)))) (pss_cons (ps_asg (pe_def D__law_next hr pass0 (pa_cons (pv 1) (pa_cons (pe_callB (kcall_len (K := K)) (by rfl) B.len PySem.boot_len (pa_cons (pv 5) pa_nil)) pa_nil))) (pg_name (i := 7) sc_law.nd rfl (Or.inl rfl)))
 (pss_one (ps_expr (pe_bm PySem.F.plainAttrs_list PySem.F.slot_list_append PySem.F.type_list_append mt_append (pv 3) (pa_cons (pe_tup (pa_cons (pv 4) (pa_cons (pe_op op_cat (pe_slice (ksl_list (K := K)) (pv 5) (po_some (pv 7)) po_none) (pe_slice (ksl_list (K := K)) (pv 5) po_none (po_some (pv 7)))) (pa_cons (pe_revL (pv 6)) pa_nil)))) pa_nil))))))
 (pss_cons (ps_asg (pe_mkD DI_Plan m_Plan hr (fun σ => Passes.at passL σ) (pa_cons (pe_ix (kix_tup (K := K)) (pv 2) pe_int (fun _ _ => rfl)) (pa_cons (pv 3) pa_nil))) (pg_name (i := 8) sc_law.nd rfl (Or.inl rfl)))
 (pss_cons (ps_asg (pe_def D__law_groups hr pass0 (pa_cons (pv 2) pa_nil)) (pg_lst rfl (pgs_cons (pg_name (i := 9) sc_law.nd rfl (Or.inr rfl)) (pgs_cons (pg_name (i := 10) sc_law.nd rfl (Or.inl rfl)) pgs_nil))))
 (pss_cons (ps_asg (pe_def D_choices hr pass0 (pa_cons (pv 8) pa_nil)) (pg_name (i := 11) sc_law.nd rfl (Or.inl rfl)))
 (pss_cons (ps_if (PW.pt (pw_or (pt_not (pt_val (pe_callB (kcall_isi (K := K)) (by rfl) B.isinstance (by decide +kernel) (pa_cons (pv 11) (pa_cons (pe_bltn (v := .ty "list") (by rfl) B.list' (by decide +kernel) rfl) pa_nil))))) (pw_or1 (pt_cmpR (kop_neD (K := K) hr.units) (pv 11) (pe_lc (own := [("_law_group", 17)]) (g := gName 17) (by rfl) sc_law.nd (kpi_list (K := K) (pv 10)) (blkOk_by (N := ["_law_script", "_law_box_here", "_law_rows_here", "_law_turned", "_law_word_here", "_law_taken", "_law_given", "_law_at", "_law_plan", "_law_sets", "_law_groups_here", "_law_told", "_law_words_here", "_law_k", "_law_step", "_law_strange", "_law_row", "_law_group"]) (sc := defScope s_law) (by decide +kernel)) (fun _ _ _ _ _ => (pg_name (i := 17) sc_law.nd rfl (Or.inl rfl))) (fun _ _ _ _ _ => pts_nil) (fun _ _ _ _ _ => (pe_callTy (kcall_tuple (K := K)) (by rfl) B.tuple' (by decide +kernel) (pa_cons (pv 17) pa_nil)))) (nomark _))))) (pss_one (ps_ret pe_bl)) pss_nil)
 (pss_cons (ps_setLc (i := 12) (own := [("_law_row", 16)]) (g := gName 16) (by rfl) sc_law.nd rfl rfl (sw_true rfl rfl rfl (by decide +kernel)) (kpi_list (K := K) (pe_ix (kix_tup (K := K)) (pv 2) pe_int (fun _ _ => rfl))) (blkOk_by (N := ["_law_script", "_law_box_here", "_law_rows_here", "_law_turned", "_law_word_here", "_law_taken", "_law_given", "_law_at", "_law_plan", "_law_sets", "_law_groups_here", "_law_told", "_law_words_here", "_law_k", "_law_step", "_law_strange", "_law_row", "_law_group"]) (sc := defScope s_law) (by decide +kernel)) (fun _ _ _ _ _ => (pg_name (i := 16) sc_law.nd rfl (Or.inl rfl))) (fun _ _ _ _ _ => pts_nil) (fun _ _ _ _ _ => (pe_ix (kix_tup (K := K)) (pv 16) pe_int (fun _ _ => rfl))))
 (C8.pss_cut (ps_for PassesOwn.never rfl (pi_range1 (by rfl) B.range (pa_cons (pe_callB (kcall_len (K := K)) (by rfl) B.len PySem.boot_len (pa_cons (pv 10) pa_nil)) pa_nil)) (pg_name (i := 13) sc_law.nd rfl (Or.inr rfl)) (pss_one (ps_for PassesOwn.never rfl (kpi_list (K := K) (pe_ix (kix_list (K := K)) (pv 10) (pv 13) (fun _ _ => rfl))) (pg_name (i := 14) sc_law.nd rfl (Or.inl rfl)) (pss_cons (ps_if (pt_cmpR (kop_neD (K := K) hr.units) (pe_def D_choice_of hr passL (pa_cons (pv 8) (pa_cons (pv 14) pa_nil))) (pe_callTy (kcall_tuple (K := K)) (by rfl) B.tuple' (by decide +kernel) (pa_cons (pe_ix (kix_list (K := K)) (pv 10) (pv 13) (fun _ _ => rfl)) pa_nil)) (nomark _)) (pss_one (ps_ret pe_bl)) pss_nil)
 (pss_one (ps_if (pt_cmpR (kop_neD (K := K) hr.units) (pe_def D_choice_places hr passL (pa_cons (pv 8) (pa_cons (pv 14) pa_nil))) (pe_callTy (kcall_tuple (K := K)) (by rfl) B.tuple' (by decide +kernel) (pa_cons (pe_lc (own := [("_law_word_here", 4)]) (g := gName 4) (by rfl) sc_law.nd (kpi_list (K := K) (pv 12)) (blkOk_by (N := ["_law_script", "_law_box_here", "_law_rows_here", "_law_turned", "_law_word_here", "_law_taken", "_law_given", "_law_at", "_law_plan", "_law_sets", "_law_groups_here", "_law_told", "_law_words_here", "_law_k", "_law_step", "_law_strange", "_law_row", "_law_group"]) (sc := defScope s_law) (by decide +kernel)) (fun _ _ _ _ _ => (pg_name (i := 4) sc_law.nd rfl (Or.inl rfl))) (fun _ _ _ _ _ => pts_one (pt_cmpR (kop_in (K := K)) (pv 4) (pe_ix (kix_list (K := K)) (pv 9) (pv 13) (fun _ _ => rfl)) rfl)) (fun _ _ _ _ _ => (pv 4))) pa_nil)) (nomark _)) (pss_one (ps_ret pe_bl)) pss_nil))))))
 (pss_cons (ps_expr (pe_bm0 PySem.F.plainAttrs_list PySem.F.slot_list_clear PySem.F.type_list_clear mt_clear (pv 11)))
 (pss_cons (ps_if (pt_cmpR (kop_neD (K := K) hr.units) (pe_def D_choices hr pass0 (pa_cons (pv 8) pa_nil)) (pe_lc (own := [("_law_group", 17)]) (g := gName 17) (by rfl) sc_law.nd (kpi_list (K := K) (pv 10)) (blkOk_by (N := ["_law_script", "_law_box_here", "_law_rows_here", "_law_turned", "_law_word_here", "_law_taken", "_law_given", "_law_at", "_law_plan", "_law_sets", "_law_groups_here", "_law_told", "_law_words_here", "_law_k", "_law_step", "_law_strange", "_law_row", "_law_group"]) (sc := defScope s_law) (by decide +kernel)) (fun _ _ _ _ _ => (pg_name (i := 17) sc_law.nd rfl (Or.inl rfl))) (fun _ _ _ _ _ => pts_nil) (fun _ _ _ _ _ => (pe_callTy (kcall_tuple (K := K)) (by rfl) B.tuple' (by decide +kernel) (pa_cons (pv 17) pa_nil)))) (nomark _)) (pss_one (ps_ret pe_bl)) pss_nil)
 (pss_cons (ps_asg (pe_op op_add_str pe_str (pe_bm PySem.F.plainAttrs_str PySem.F.slot_str_join PySem.F.type_str_join mt_join pe_str (pa_cons (pe_lc (own := [("_law_row", 16)]) (g := gName 16) (by rfl) sc_law.nd (kpi_list (K := K) (pe_ix (kix_tup (K := K)) (pv 2) pe_int (fun _ _ => rfl))) (blkOk_by (N := ["_law_script", "_law_box_here", "_law_rows_here", "_law_turned", "_law_word_here", "_law_taken", "_law_given", "_law_at", "_law_plan", "_law_sets", "_law_groups_here", "_law_told", "_law_words_here", "_law_k", "_law_step", "_law_strange", "_law_row", "_law_group"]) (sc := defScope s_law) (by decide +kernel)) (fun _ _ _ _ _ => (pg_name (i := 16) sc_law.nd rfl (Or.inl rfl))) (fun _ _ _ _ _ => pts_nil) (fun _ _ _ _ _ => (pe_ix (kix_tup (K := K)) (pv 16) pe_int (fun _ _ => rfl)))) pa_nil))) (pg_name (i := 15) sc_law.nd rfl (Or.inl rfl)))
 (pss_one (ps_ret (pe_and (pe_def D__law_refused hr pass0 (pa_cons (pv 8) (pa_cons (pv 15) (pa_cons pe_int pa_nil)))) (pe_one (pe_def D__law_refused hr pass0 (pa_cons (pv 8) (pa_cons (pv 15) (pa_cons pe_int pa_nil))))))))))))))))))))), ?_⟩
    refine ⟨_, rfl, a, ns, rfl, hS, hlen, fun b l H1 nb1 s1 hb => ?_⟩
    refine ⟨_, rfl, b, l, rfl, hb, fun p ap as' prs srs H2 s2 hp hP hSr good => ?_⟩
    refine ⟨Nat.zero_le _, fun D nD => ?_⟩
    have s3 := s2.new (o := .lst []) nD
    have nDH := s2.free nD
    obtain ⟨us, hus, pus⟩ := id hSr
    -- the rows turned
    have hgl : ∀ r ∈ srs, r.2.1.length ≤ 7 ∧ r.2.2.length ≤ 7 ∧ 1 ≤ r.2.1.length := fun r hr5 => by
      obtain ⟨_, a1, a2, a3, a4, a5⟩ := good.sw r hr5
      have h1 := List.Nodup.length_le_of_subset a2 a3
      have h2 := List.Nodup.length_le_of_subset a4 a5
      rw [List.length_map] at h1 h2
      have := good.p7
      have := List.length_pos_iff.mpr a1
      omega
    have ls13 := good.s13
    refine ⟨_, rfl, p, _, _, _, rfl, rfl, SqT.of (same_upd nD _ _ hp), atI_nat (j := 1) rfl, as', rfl, ⟨_, SqL.of (same_upd nD _ _ hus)⟩, for_list (K := K) (a := as') (xs := us.map V.ref) (fun i σ H' => ∃ (trs : List SRow) (y4 y5 y6 y7 : Option V), σ = [some (.ref a), some (.ref b), some (.ref p), some (.ref D), y4, y5, y6, y7, none, none, none, none, none, none, none, none, none, none] ∧ Bx b l H2 H' ∧ Paired (fun (t r : SRow) => ∃ j, t = turnRow r j) trs (srs.take i) ∧ SRows H' D trs)
      ⟨[], none, none, none, none, rfl, s2.b1.bx.new nD, .nil, ⟨[], upd_same, .nil⟩⟩ (fun i σ H' _ ⟨_, _, _, _, _, _, sm, _⟩ => SqL.of (sm.refs hus)) ?_ ?_⟩
    · rintro i x σ H' hi ⟨trs, y4, y5, y6, y7, rfl, sm, pt, hT⟩
      obtain ⟨t, ht, rfl⟩ := map_get hi
      obtain ⟨r, hr1, b1, c1, e1, e2, e3, n1, n2⟩ := Paired.get pus ht
      obtain ⟨g1, g2, g3⟩ := hgl r (List.mem_of_getElem? hr1)
      have ltr : trs.length ≤ 13 := by
        rw [Paired.len pt, List.length_take]
        omega
      refine ⟨t, _, rfl, SqT.of (sm.tup e1), rfl, _, _, rfl, _, _, rfl, _, _, rfl, rfl, ?_⟩
      refine ⟨_, rfl, _, rfl, b1, _, rfl, .inl (SqL.of (sm.strs e2)), b, l, _, rfl, by rw [List.length_map]; omega, by rw [List.length_map]; exact Int.le_trans (show (r.2.1.length : Int) ≤ 1000 by omega) (by decide), sm.b1, fun m H4 c0 c1' s4 => ?_⟩
      obtain ⟨j, rfl⟩ : ∃ j : Nat, m = j := ⟨m.toNat, by omega⟩
      have sm4 := sm.trans s4
      have hT4 := hT.bx s4
      refine ⟨_, rfl, .inl ⟨rfl, _, SqL.of hT4.choose_spec.1⟩, _, rfl, _, rfl, _, rfl, _, rfl, b1, _, rfl, SqL.of (sm4.strs e2), fun p1 np1 => ?_⟩
      rw [cutV_drop, ← List.map_drop]
      have u1 := same_upd (o := .lst ((r.2.1.drop j).map V.str)) np1
      refine ⟨_, rfl, _, rfl, _, rfl, b1, _, rfl, SqL.of (u1 _ _ (sm4.strs e2)), fun p2 np2 => ?_⟩
      rw [cutV_take, ← List.map_take]
      have u2 := same_upd (o := .lst ((r.2.1.take j).map V.str)) np2
      refine ⟨p1, p2, _, _, rfl, rfl, u2 _ _ upd_same, upd_same, ?_, fun p3 np3 => ?_⟩
      · rw [List.length_map, List.length_map, List.length_drop, List.length_take]
        exact Nat.le_trans (show _ ≤ 1000 by omega) (by decide)
      have u3 := same_upd (o := .lst ((r.2.1.drop j).map V.str ++ (r.2.1.take j).map V.str)) np3
      have u123 := (u1.trans u2).trans u3
      refine ⟨_, rfl, c1, _, rfl, SqL.of (u123 _ _ (sm4.strs e3)), fun p4 np4 => ?_⟩
      have u4 := same_upd (o := .lst ((r.2.2.map V.str).reverse)) np4
      refine ⟨by show 3 ≤ sizeLine; decide, fun t2 nt2 => ?_⟩
      have u5 := same_upd (o := .tup [.str r.1, .ref p3, .ref p4]) nt2
      have s5 := s4.same ((u123.trans u4).trans u5)
      obtain ⟨vs2, hv2, pv2⟩ := hT.bx s5
      have q3 : p3 ≠ D := Ne.symm (ne_of_none ((u1.trans u2) _ _ hT4.choose_spec.1) np3)
      have q4 : p4 ≠ D := Ne.symm (ne_of_none (u123 _ _ hT4.choose_spec.1) np4)
      refine ⟨D, _, _, rfl, rfl, hv2, by rw [List.length_map, Paired.len pv2]; exact small1000 (by omega), trs ++ [turnRow r j], _, _, _, _, rfl, (sm.trans s5).mut nD, ?_, SRows.snoc hv2 pv2 ⟨p3, p4, upd_same, ?_, ?_, q3, q4⟩⟩
      · rw [take_more hr1]
        exact PySem.Paired.snoc pt ⟨j, rfl⟩
      · show _ = some (HO.lst ((r.2.1.drop j ++ r.2.1.take j).map V.str))
        rw [List.map_append]
        exact (u4.trans u5) _ _ upd_same
      · show _ = some (HO.lst (r.2.2.reverse.map V.str))
        rw [List.map_reverse]
        exact u5 _ _ upd_same
    · rintro σ H' ⟨trs, y4, y5, y6, y7, rfl, sm, pt, hT⟩
      rw [List.length_map, Paired.len pus, List.take_length] at pt
      have tg := turn_good pt good
      have hpl : planOf prs trs = planOf prs srs := by
        show (⟨prs.map (·.1), prs.map (·.2), trs.map (ordRow (prs.map (·.1)))⟩ : PlanD) = ⟨prs.map (·.1), prs.map (·.2), srs.map (ordRow (prs.map (·.1)))⟩
        rw [turn_ord _ pt]
      have lw : ∀ {z : Str}, Wd z → z.length ≤ 1000 := fun h => by have := h.len; omega
      -- the plan
      refine ⟨_, rfl, p, _, _, _, rfl, rfl, SqT.of (sm.tup hp), atI_nat (j := 0) rfl, _, rfl, ?_⟩
      refine mk_plan (hP.bx sm) hT (fun r hr5 => lw (tg.pw r hr5).1) (fun r hr5 => ?_) (fun _ x H5 nx s5 hx => ?_) (fun e he => by rw [tg.due] at he; cases he)
      · obtain ⟨a0, a1, a2, a3, a4, a5⟩ := tg.sw r hr5
        have h1 := List.Nodup.length_le_of_subset a2 a3
        have h2 := List.Nodup.length_le_of_subset a4 a5
        rw [List.length_map] at h1 h2
        have := good.p7
        exact ⟨lw a0, by omega, by omega⟩
      rw [hpl] at hx
      generalize hd : planOf prs srs = d at hx
      have dst : d.steps = srs.map (ordRow (prs.map (·.1))) := by rw [← hd]; rfl
      have dn : d.names = srs.map (·.1) := by
        unfold PlanD.names
        rw [dst, List.map_map]
        rfl
      have dnd : d.names.Nodup := by rw [dn]; exact good.sn
      have dlen : d.steps.length ≤ 16 := by rw [dst, List.length_map]; omega
      have pasc : ∀ y ∈ prs.map (·.1), Asc y := fun y hy => by
        obtain ⟨r, hr5, rfl⟩ := List.mem_map.mp hy
        exact (good.pw r hr5).1.asc
      have dasc : AscPlan d := fun r hr5 y hy => by
        rw [dst] at hr5
        obtain ⟨r0, hr0, rfl⟩ := List.mem_map.mp hr5
        exact pasc y (mem_inOrd.mp hy).1
      obtain ⟨hgc, hko⟩ := groups_choices (ps := prs.map (·.1)) (srs := srs) fun r hr5 => ⟨(good.sw r hr5).2.2.1, (good.sw r hr5).2.2.2.1⟩
      have hch : choicesD d = (groupsR srs).map (·.2) := by
        unfold choicesD
        rw [dst, hgc, List.map_map]
        rfl
      -- the law's groups
      refine ⟨_, rfl, p, ap, as', srs, rfl, s5 _ _ (sm.tup hp), (hSr.bx sm).keep s5, by omega, fun r hr5 => ⟨by have := hgl r hr5; omega, fun y hy => pasc y ((good.sw r hr5).2.2.2.1 y hy)⟩, fun q3 S G H6 s6 hq3 gr => ?_⟩
      refine ⟨q3, _, rfl, SqL.of hq3, rfl, _, _, rfl, _, _, rfl, rfl, ?_⟩
      obtain ⟨sa, ga, eS, eG, pS, pG, gnd, gnS, gnG, gns⟩ := gr.ex
      -- the choices
      refine ⟨_, rfl, x, d, rfl, hx.keep s6, dnd, dlen, fun T ts H7 s7 nT hT7 pT => ?_⟩
      rw [hch] at pT
      have hG1 : ∀ x ∈ groupsR srs, x.2 = choiceOfD d (inOrd (prs.map (·.1)) x.1) := fun x hx => by
        have := (choice_ginv d.steps).1 (ordG (prs.map (·.1)) x) (by rw [dst, hgc]; exact List.mem_map.mpr ⟨x, hx, rfl⟩)
        exact this
      have hG2 : ∀ x ∈ groupsR srs, ∀ y ∈ x.2, ∃ r ∈ d.steps, r.1 = y ∧ r.2.1 = inOrd (prs.map (·.1)) x.1 := fun x hx y hy => by
        rw [hG1 x hx] at hy
        unfold choiceOfD at hy
        obtain ⟨r, hr5, e⟩ := List.mem_map.mp hy
        obtain ⟨h1, h2⟩ := List.mem_filter.mp hr5
        exact ⟨r, h1, e, of_decide_eq_true h2⟩
      have gasc : ∀ g ∈ (groupsR srs).map (·.2), ∀ y ∈ g, Asc y := fun g hg y hy => by
        obtain ⟨x, hx, rfl⟩ := List.mem_map.mp hg
        obtain ⟨r, hr5, e, _⟩ := hG2 x hx y hy
        rw [dst] at hr5
        obtain ⟨r0, hr0, rfl⟩ := List.mem_map.mp hr5
        rw [← e]
        exact (good.sw r0 hr0).1.asc
      have lgr : (groupsR srs).length ≤ 20 := by
        have := choice_len (srs.map (ordRow (prs.map (·.1))))
        rw [hgc, List.length_map, List.length_map] at this
        omega
      have pGl : ∀ {J : Hp}, Same H6 J → Paired (fun c g => J c = some (.lst (g.map V.str))) ga ((groupsR srs).map (·.2)) := fun {J} sj => by
        have : ∀ {l : List Addr} {m : List LG}, Paired (fun a (x : LG) => H6 a = some (.lst (x.2.map V.str)) ∧ H5 a = none) l m → Paired (fun c g => J c = some (.lst (g.map V.str))) l (m.map (·.2)) := fun {l m} h => by
          induction h with
          | nil => exact .nil
          | cons a _ ih => exact .cons (sj _ _ a.1) ih
        exact this pG
      -- told is a list, of these tuples
      refine ⟨_, rfl, _, _, _, _, true, rfl, .ty _, .base (.lst hT7), kit_ty (by decide +kernel), _, rfl, ?_⟩
      refine iteF ?_
      refine go_test (go_op ⟨_, rfl, ?_⟩)
      refine lc_tups (s7 _ _ eG) (pGl s7) (by rw [List.length_map]; omega) (by rfl) (by show 17 < 18; decide) fun D3 ts3 H8 nD3 s8 hD3 p3 => ?_
      refine ⟨_, _, .lst (SqL.of (s8 _ _ hT7)) (dp_tups (Paired.imp2 (fun _ _ h => s8 _ _ h) pT)), .lst (SqL.of hD3) (dp_tups p3), sh_tups gasc, sh_tups gasc, _, rfl, ?_⟩
      have eqt : (PyData.list (((groupsR srs).map (·.2)).map tStrs)).eqv (PyData.list (((groupsR srs).map (·.2)).map tStrs)) = true := eqv_self (nb_tups gasc)
      rw [eqt]
      refine iteF ?_
      -- the words
      have s78 := (s5.trans s6).trans (s7.trans s8)
      have smx := sm.same s78
      obtain ⟨ta, hta, pta⟩ := id hP
      refine go_next ?_
      dsimp only
      refine go_asg ?_
      have pta8 : Paired (fun t (r : Str × Int) => H8 t = some (.tup [.str r.1, .int r.2])) ta prs := Paired.imp2 (fun _ _ h => smx.tup h) pta
      refine lc_headsE (ts := ta) (ws := prs.map (·.1)) (PRows.heads pta8) (by rw [List.length_map]; have := good.p7; omega) (by show 16 < 18; decide) (fun F h => ⟨_, rfl, p, _, _, _, rfl, rfl, SqT.of (smx.tup hp), atI_nat (j := 0) rfl, h ap H8 (Same.refl H8) (smx.refs hta)⟩) fun WW H9 s9 hWW => ?_
      have k6 : Same H6 H9 := (s7.trans s8).trans s9
      have hx9 : PlanAt H9 C x d := hx.keep (s6.trans k6)
      have lga : ga.length = (groupsR srs).length := Paired.len pG
      refine ⟨fun σ' H' => ∃ y4 y13 y14, σ' = [some (.ref a), some (.ref b), some (.ref p), some (.ref D), y4, y5, y6, y7, some (.ref x), some (.ref S), some (.ref G), some (.ref T), some (.ref WW), y13, y14, none, none, none] ∧ Same H9 H', ?_, ?_⟩
      · refine ⟨_, rfl, G, _, rfl, .inl (SqL.of (k6 _ _ eG)), _, rfl, by rw [List.length_map]; omega, by rw [List.length_map]; omega, for_range (lo := 0) (n := ((ga.map V.ref).length : Int).toNat) (fun i σ' H' => ∃ y4 y13 y14, σ' = [some (.ref a), some (.ref b), some (.ref p), some (.ref D), y4, y5, y6, y7, some (.ref x), some (.ref S), some (.ref G), some (.ref T), some (.ref WW), y13, y14, none, none, none] ∧ Same H9 H')
          ⟨_, none, none, rfl, Same.refl H9⟩ ?_ fun _ _ h => h⟩
        rintro i σ J hi ⟨z4, z13, z14, rfl, sj⟩
        have hi2 : i < (groupsR srs).length := by rw [List.length_map] at hi; omega
        generalize hxe : (groupsR srs)[i] = e
        have hxi : (groupsR srs)[i]? = some e := by rw [List.getElem?_eq_getElem hi2, hxe]
        have hem := List.mem_of_getElem? hxi
        obtain ⟨ca, hca1, hca2, _⟩ := Paired.get' pG hxi
        obtain ⟨cb, hcb1, hcb2, _⟩ := Paired.get' pS hxi
        have hga : (ga.map V.ref)[i]? = some (.ref ca) := by rw [List.getElem?_map, hca1]; rfl
        have hsa : (sa.map V.ref)[i]? = some (.ref cb) := by rw [List.getElem?_map, hcb1]; rfl
        have easc : ∀ y ∈ e.2, Asc y := gasc _ (List.mem_map.mpr ⟨e, hem, rfl⟩)
        refine ⟨_, rfl, _, rfl, G, _, _, _, rfl, rfl, SqL.of (sj _ _ (k6 _ _ eG)), by rw [Int.zero_add]; exact atI_nat hga, ca, rfl, ⟨_, SqL.of (sj _ _ (k6 _ _ hca2))⟩, for_list (K := K) (a := ca) (xs := e.2.map V.str) (fun _ σ' H' => ∃ y4 y14, σ' = [some (.ref a), some (.ref b), some (.ref p), some (.ref D), y4, y5, y6, y7, some (.ref x), some (.ref S), some (.ref G), some (.ref T), some (.ref WW), some (.int (0 + (i : Nat))), y14, none, none, none] ∧ Same H9 H')
          ⟨_, _, rfl, sj⟩ (fun _ _ _ _ ⟨_, _, _, sm⟩ => SqL.of (sm _ _ (k6 _ _ hca2))) ?_ fun _ _ ⟨_, _, e, sm⟩ => ⟨_, _, _, e, sm⟩⟩
        rintro i2 v σ J1 hi3 ⟨w4, w14, rfl, sj1⟩
        obtain ⟨n, hn, rfl⟩ := map_get hi3
        obtain ⟨r, hr5, hrn, hrt⟩ := hG2 e hem n (List.mem_of_getElem? hn)
        have hnn : n ∈ d.names := List.mem_map.mpr ⟨r, hr5, hrn⟩
        have htk : takesD d n = some (inOrd (prs.map (·.1)) e.1) := by
          rw [← hrn, takes_of_mem dnd hr5, hrt]
        have oasc : ∀ y ∈ inOrd (prs.map (·.1)) e.1, Asc y := fun y hy => pasc y (mem_inOrd.mp hy).1
        refine ⟨_, rfl, _, rfl, x, n, d, rfl, hx9.keep sj1, dnd, dlen, dasc, fun _ P1 l1 J2 hl1 sj2 hP1 => ?_, fun h => absurd hnn h⟩
        have el : l1 = inOrd (prs.map (·.1)) e.1 := by
          rw [htk] at hl1
          exact (Option.some.inj hl1).symm
        subst el
        rw [← hG1 e hem] at hP1
        have sj12 := sj1.trans sj2
        refine ⟨_, rfl, _, rfl, G, _, _, _, rfl, rfl, SqL.of (sj12 _ _ (k6 _ _ eG)), by rw [Int.zero_add]; exact atI_nat hga, ca, _, rfl, .inl ⟨SqL.of (sj12 _ _ (k6 _ _ hca2)), fun P2 nP2 => ?_⟩⟩
        have u := same_upd (o := .tup (e.2.map V.str)) nP2
        refine ⟨_, _, .tup (SqT.of (u _ _ hP1)) (dpall_strs _), .tup (SqT.of upd_same) (dpall_strs _), sh_tstrs easc, sh_tstrs easc, _, rfl, ?_⟩
        have eq1 : (PyData.tuple (e.2.map PyData.str)).eqv (PyData.tuple (e.2.map PyData.str)) = true := eqv_self (nb_tstrs easc)
        rw [eq1]
        refine iteF ?_
        have sj3 := sj12.trans u
        refine ⟨_, rfl, _, rfl, x, n, d, rfl, hx9.keep sj3, fun _ tt l ht hl => ?_, fun h => absurd hnn h⟩
        have el : l = inOrd (prs.map (·.1)) e.1 := by
          rw [htk] at hl
          exact (Option.some.inj hl).symm
        subst el
        refine go_cb (go_cons ?_)
        refine lc_gen (enc := V.str) (out := V.str) (ws := prs.map (·.1)) (p := fun y => decide (y ∈ e.1)) (by rw [List.length_map]; have := good.p7; omega) (fun F h => ⟨_, rfl, h WW _ (Same.refl _) (sj3 _ _ hWW)⟩) (fun y _ J5 Qb s5' h => ?_) (fun y _ _ J5 Q' _ h => ⟨_, rfl, h J5 (Same.refl J5)⟩) fun D5 J5 nD5 sj5 hD5 => ?_
        · refine ⟨_, rfl, _, rfl, _, rfl, S, _, _, _, rfl, rfl, SqL.of (s5' _ _ (sj3 _ _ (k6 _ _ eS))), by rw [Int.zero_add]; exact atI_nat hsa, cb, _, rfl, .inl (SqL.of (s5' _ _ (sj3 _ _ (k6 _ _ hcb2)))), rfl, flat_strs _, _, rfl, ?_⟩
          rw [inV_strs]
          exact h J5 (Same.refl J5)
        · refine ⟨D5, _, rfl, .inl ⟨SqL.of hD5, fun P3 nP3 => ?_⟩⟩
          have u5 := same_upd (o := .tup (((prs.map (·.1)).filter fun y => decide (y ∈ e.1)).map V.str)) nP3
          refine ⟨_, _, .tup (SqT.of (u5 _ _ (sj5 _ _ ht))) (dpall_strs _), .tup (SqT.of upd_same) (dpall_strs _), sh_tstrs oasc, sh_tstrs oasc, _, rfl, ?_⟩
          have eq2 : (PyData.tuple ((inOrd (prs.map (·.1)) e.1).map PyData.str)).eqv (PyData.tuple (((prs.map (·.1)).filter fun y => decide (y ∈ e.1)).map PyData.str)) = true := eqv_self (nb_tstrs oasc)
          rw [eq2]
          exact iteF ⟨_, _, rfl, (sj3.trans sj5).trans u5⟩
      · rintro σ' J ⟨z4, z13, z14, rfl, sj⟩
        have hTJ : J T = some (.lst (ts.map V.ref)) := sj _ _ (s9 _ _ (s8 _ _ hT7))
        refine ⟨_, rfl, .inl ⟨rfl, _, SqL.of hTJ⟩, T, _, rfl, rfl, hTJ, ?_⟩
        have k7 : Same H6 (upd J T (.lst [])) := (k6.trans sj).mut nT
        -- the choices once more
        refine ⟨_, rfl, x, d, rfl, (hx.keep s6).keep k7, dnd, dlen, fun T2 ts2 J2 sj2 nT2 hT2 pT2 => ?_⟩
        rw [hch] at pT2
        have k8 := k7.trans sj2
        refine lc_tups (k8 _ _ eG) (pGl k8) (by rw [List.length_map]; omega) (by rfl) (by show 17 < 18; decide) fun D4 ts4 J3 nD4 sj3 hD4 p4 => ?_
        refine ⟨_, _, .lst (SqL.of (sj3 _ _ hT2)) (dp_tups (Paired.imp2 (fun _ _ h => sj3 _ _ h) pT2)), .lst (SqL.of hD4) (dp_tups p4), sh_tups gasc, sh_tups gasc, _, rfl, ?_⟩
        rw [eqt]
        refine iteF ?_
        refine go_next ?_
        dsimp only
        refine go_asg (go_op (go_tC (go_bm (go_tC ⟨rfl, go_cons ?_⟩))))
        have k9 := k8.trans sj3
        have smy := (sm.same (s5.trans s6)).same k9
        have pus9 : Paired (SRowIn J3 as') us srs := Paired.imp2 (fun _ _ ⟨x, y, h3, h4, h5, u⟩ => ⟨x, y, smy.tup h3, smy.strs h4, smy.strs h5, u⟩) pus
        refine lc_headsE (ts := us) (ws := srs.map (·.1)) (SRows.heads pus9) (by rw [List.length_map]; omega) (by show 16 < 18; decide) (fun F h => ⟨_, rfl, p, _, _, _, rfl, rfl, SqT.of (smy.tup hp), atI_nat (j := 1) rfl, h as' J3 (Same.refl J3) (smy.refs hus)⟩) fun WN J4 sj4 hWN => ?_
        have hsum : ((srs.map (·.1)).map (·.length)).sum ≤ 13 * 12 := by
          have := sum_le (l := (srs.map (·.1)).map (·.length)) (m := 12) fun n hn => by
            obtain ⟨z, hz, rfl⟩ := List.mem_map.mp hn
            obtain ⟨r, hr5, rfl⟩ := List.mem_map.mp hz
            exact (good.sw r hr5).1.len
          rw [List.length_map, List.length_map] at this
          have h2 : srs.length * 12 ≤ 13 * 12 := Nat.mul_le_mul_right 12 ls13
          omega
        have hjl : (Txt.join "" (srs.map (·.1))).length ≤ 13 * 12 := by rw [tjoin_eq, join_len]; exact hsum
        refine ⟨_, WN, _, rfl, rfl, .inl (SqL.of hWN), by
          have : (("" : Str)).length = 0 := rfl
          rw [this]
          omega, _, _, rfl, rfl, ?_, ?_⟩
        · have : (("z" : Str)).length = 1 := rfl
          exact Nat.le_trans (show _ ≤ 1000 by omega) (by decide)
        have hnew : (("z" : Str) ++ Txt.join "" (srs.map (·.1))) ∉ d.names := by rw [dn]; exact strange_new
        have hxf : PlanAt J4 C x d := (hx.keep s6).keep (k9.trans sj4)
        refine ⟨_, rfl, _, rfl, x, _, 0, d, rfl, hxf, dnd, dlen, dasc, hnew, fun J5 sj5 => ⟨_, rfl, ?_⟩⟩
        exact iteT ⟨_, rfl, _, rfl, x, _, 1, d, rfl, hxf.keep sj5, dnd, dlen, dasc, hnew, fun J6 sj6 => q J6⟩
end

/-! ## the end -/
theorem all_mk {P : Program} {w : World} {K : PySem.W.Frag} {h : Heap} {mg : Str → Option Value} {fa : Addr} (X : K.In h) (G : h.Ns mainGlobals mg) (hfa : mg "law" = some (.ref fa)) (top : (P.main.scope.names.lookup ("super" : Str)).isSome = false)
    {t_LETTERS : Tok}
    {t_DIGITS : Tok}
    {t_MOST_SIGNS : Tok}
    {t_MOST_PLACES : Tok}
    {t_MOST_STEPS : Tok}
    {t_MOST_BEGIN : Tok}
    {f_is_word : Addr} {od_is_word an_is_word : Option Addr} {sl_is_word : Array (Option Value)} {oc_is_word kV_is_word dc_is_word pm_is_word cd_is_word ct_is_word : Value}
    {f_check_word : Addr} {od_check_word an_check_word : Option Addr} {sl_check_word : Array (Option Value)} {oc_check_word kV_check_word dc_check_word pm_check_word cd_check_word ct_check_word : Value}
    {f_check_number : Addr} {od_check_number an_check_number : Option Addr} {sl_check_number : Array (Option Value)} {oc_check_number kV_check_number dc_check_number pm_check_number cd_check_number ct_check_number : Value}
    {f_check_names : Addr} {od_check_names an_check_names : Option Addr} {sl_check_names : Array (Option Value)} {oc_check_names kV_check_names dc_check_names pm_check_names cd_check_names ct_check_names : Value}
    {f_in_order : Addr} {od_in_order an_in_order : Option Addr} {sl_in_order : Array (Option Value)} {oc_in_order kV_in_order dc_in_order pm_in_order cd_in_order ct_in_order : Value}
    {f__law_box : Addr} {od__law_box an__law_box : Option Addr} {sl__law_box : Array (Option Value)} {oc__law_box kV__law_box dc__law_box pm__law_box cd__law_box ct__law_box : Value}
    {f__law_next : Addr} {od__law_next an__law_next : Option Addr} {sl__law_next : Array (Option Value)} {oc__law_next kV__law_next dc__law_next pm__law_next cd__law_next ct__law_next : Value}
    {f__law_word : Addr} {od__law_word an__law_word : Option Addr} {sl__law_word : Array (Option Value)} {oc__law_word kV__law_word dc__law_word pm__law_word cd__law_word ct__law_word : Value}
    {f__law_words : Addr} {od__law_words an__law_words : Option Addr} {sl__law_words : Array (Option Value)} {oc__law_words kV__law_words dc__law_words pm__law_words cd__law_words ct__law_words : Value}
    {f__law_pick : Addr} {od__law_pick an__law_pick : Option Addr} {sl__law_pick : Array (Option Value)} {oc__law_pick kV__law_pick dc__law_pick pm__law_pick cd__law_pick ct__law_pick : Value}
    {f__law_any : Addr} {od__law_any an__law_any : Option Addr} {sl__law_any : Array (Option Value)} {oc__law_any kV__law_any dc__law_any pm__law_any cd__law_any ct__law_any : Value}
    {f__law_free : Addr} {od__law_free an__law_free : Option Addr} {sl__law_free : Array (Option Value)} {oc__law_free kV__law_free dc__law_free pm__law_free cd__law_free ct__law_free : Value}
    {f__law_stretched : Addr} {od__law_stretched an__law_stretched : Option Addr} {sl__law_stretched : Array (Option Value)} {oc__law_stretched kV__law_stretched dc__law_stretched pm__law_stretched cd__law_stretched ct__law_stretched : Value}
    {f__law_twinned : Addr} {od__law_twinned an__law_twinned : Option Addr} {sl__law_twinned : Array (Option Value)} {oc__law_twinned kV__law_twinned dc__law_twinned pm__law_twinned cd__law_twinned ct__law_twinned : Value}
    {f__law_detoured : Addr} {od__law_detoured an__law_detoured : Option Addr} {sl__law_detoured : Array (Option Value)} {oc__law_detoured kV__law_detoured dc__law_detoured pm__law_detoured cd__law_detoured ct__law_detoured : Value}
    {f__law_ring : Addr} {od__law_ring an__law_ring : Option Addr} {sl__law_ring : Array (Option Value)} {oc__law_ring kV__law_ring dc__law_ring pm__law_ring cd__law_ring ct__law_ring : Value}
    {f__law_grown : Addr} {od__law_grown an__law_grown : Option Addr} {sl__law_grown : Array (Option Value)} {oc__law_grown kV__law_grown dc__law_grown pm__law_grown cd__law_grown ct__law_grown : Value}
    {f__law_rows : Addr} {od__law_rows an__law_rows : Option Addr} {sl__law_rows : Array (Option Value)} {oc__law_rows kV__law_rows dc__law_rows pm__law_rows cd__law_rows ct__law_rows : Value}
    {f__law_groups : Addr} {od__law_groups an__law_groups : Option Addr} {sl__law_groups : Array (Option Value)} {oc__law_groups kV__law_groups dc__law_groups pm__law_groups cd__law_groups ct__law_groups : Value}
    {f__law_refused : Addr} {od__law_refused an__law_refused : Option Addr} {sl__law_refused : Array (Option Value)} {oc__law_refused kV__law_refused dc__law_refused pm__law_refused cd__law_refused ct__law_refused : Value}
    {f_choices : Addr} {od_choices an_choices : Option Addr} {sl_choices : Array (Option Value)} {oc_choices kV_choices dc_choices pm_choices cd_choices ct_choices : Value}
    {f_choice_of : Addr} {od_choice_of an_choice_of : Option Addr} {sl_choice_of : Array (Option Value)} {oc_choice_of kV_choice_of dc_choice_of pm_choice_of cd_choice_of ct_choice_of : Value}
    {f_choice_places : Addr} {od_choice_places an_choice_places : Option Addr} {sl_choice_places : Array (Option Value)} {oc_choice_places kV_choice_places dc_choice_places pm_choice_places cd_choice_places ct_choice_places : Value}
    {f_law : Addr} {od_law an_law : Option Addr} {sl_law : Array (Option Value)} {oc_law kV_law dc_law pm_law cd_law ct_law : Value}
    {C_BadWord fI_BadWord N_BadWord cda_BadWord cc_BadWord : Addr} {nm_BadWord q_BadWord file_BadWord : Str} {bs_BadWord bm_BadWord sub_BadWord : List Value} {sn_BadWord : List Str} {ab_BadWord : Bool} {col_BadWord : Option Bool} {dd_BadWord od_BadWord an_BadWord cdd_BadWord cld_BadWord : Option Addr} {m0_BadWord m1_BadWord m2_BadWord m3_BadWord m5_BadWord : Option Value} {oc_BadWord kV_BadWord dc_BadWord pm_BadWord ct_BadWord ccl_BadWord cl_BadWord : Value} {sl_BadWord ccs_BadWord csl_BadWord : Array (Option Value)} {vs_BadWord : Array Value} {tf_BadWord : Tok}
    {C_BadNumber fI_BadNumber N_BadNumber cda_BadNumber cc_BadNumber : Addr} {nm_BadNumber q_BadNumber file_BadNumber : Str} {bs_BadNumber bm_BadNumber sub_BadNumber : List Value} {sn_BadNumber : List Str} {ab_BadNumber : Bool} {col_BadNumber : Option Bool} {dd_BadNumber od_BadNumber an_BadNumber cdd_BadNumber cld_BadNumber : Option Addr} {m0_BadNumber m1_BadNumber m2_BadNumber m3_BadNumber m5_BadNumber : Option Value} {oc_BadNumber kV_BadNumber dc_BadNumber pm_BadNumber ct_BadNumber ccl_BadNumber cl_BadNumber : Value} {sl_BadNumber ccs_BadNumber csl_BadNumber : Array (Option Value)} {vs_BadNumber : Array Value} {tf_BadNumber : Tok}
    {C_UnknownName fI_UnknownName N_UnknownName cda_UnknownName cc_UnknownName : Addr} {nm_UnknownName q_UnknownName file_UnknownName : Str} {bs_UnknownName bm_UnknownName sub_UnknownName : List Value} {sn_UnknownName : List Str} {ab_UnknownName : Bool} {col_UnknownName : Option Bool} {dd_UnknownName od_UnknownName an_UnknownName cdd_UnknownName cld_UnknownName : Option Addr} {m0_UnknownName m1_UnknownName m2_UnknownName m3_UnknownName m5_UnknownName : Option Value} {oc_UnknownName kV_UnknownName dc_UnknownName pm_UnknownName ct_UnknownName ccl_UnknownName cl_UnknownName : Value} {sl_UnknownName ccs_UnknownName csl_UnknownName : Array (Option Value)} {vs_UnknownName : Array Value} {tf_UnknownName : Tok}
    {C_DoubleName fI_DoubleName N_DoubleName cda_DoubleName cc_DoubleName : Addr} {nm_DoubleName q_DoubleName file_DoubleName : Str} {bs_DoubleName bm_DoubleName sub_DoubleName : List Value} {sn_DoubleName : List Str} {ab_DoubleName : Bool} {col_DoubleName : Option Bool} {dd_DoubleName od_DoubleName an_DoubleName cdd_DoubleName cld_DoubleName : Option Addr} {m0_DoubleName m1_DoubleName m2_DoubleName m3_DoubleName m5_DoubleName : Option Value} {oc_DoubleName kV_DoubleName dc_DoubleName pm_DoubleName ct_DoubleName ccl_DoubleName cl_DoubleName : Value} {sl_DoubleName ccs_DoubleName csl_DoubleName : Array (Option Value)} {vs_DoubleName : Array Value} {tf_DoubleName : Tok}
    {C_EmptyStep fI_EmptyStep N_EmptyStep cda_EmptyStep cc_EmptyStep : Addr} {nm_EmptyStep q_EmptyStep file_EmptyStep : Str} {bs_EmptyStep bm_EmptyStep sub_EmptyStep : List Value} {sn_EmptyStep : List Str} {ab_EmptyStep : Bool} {col_EmptyStep : Option Bool} {dd_EmptyStep od_EmptyStep an_EmptyStep cdd_EmptyStep cld_EmptyStep : Option Addr} {m0_EmptyStep m1_EmptyStep m2_EmptyStep m3_EmptyStep m5_EmptyStep : Option Value} {oc_EmptyStep kV_EmptyStep dc_EmptyStep pm_EmptyStep ct_EmptyStep ccl_EmptyStep cl_EmptyStep : Value} {sl_EmptyStep ccs_EmptyStep csl_EmptyStep : Array (Option Value)} {vs_EmptyStep : Array Value} {tf_EmptyStep : Tok}
    {C_TooMany fI_TooMany N_TooMany cda_TooMany cc_TooMany : Addr} {nm_TooMany q_TooMany file_TooMany : Str} {bs_TooMany bm_TooMany sub_TooMany : List Value} {sn_TooMany : List Str} {ab_TooMany : Bool} {col_TooMany : Option Bool} {dd_TooMany od_TooMany an_TooMany cdd_TooMany cld_TooMany : Option Addr} {m0_TooMany m1_TooMany m2_TooMany m3_TooMany m5_TooMany : Option Value} {oc_TooMany kV_TooMany dc_TooMany pm_TooMany ct_TooMany ccl_TooMany cl_TooMany : Value} {sl_TooMany ccs_TooMany csl_TooMany : Array (Option Value)} {vs_TooMany : Array Value} {tf_TooMany : Tok}
    {C_Plan : Addr}
    {f_Plan___init__ : Addr} {od_Plan___init__ an_Plan___init__ : Option Addr} {sl_Plan___init__ : Array (Option Value)} {oc_Plan___init__ kV_Plan___init__ dc_Plan___init__ pm_Plan___init__ cd_Plan___init__ ct_Plan___init__ : Value}
    {f_Plan_put_step : Addr} {od_Plan_put_step an_Plan_put_step : Option Addr} {sl_Plan_put_step : Array (Option Value)} {oc_Plan_put_step kV_Plan_put_step dc_Plan_put_step pm_Plan_put_step cd_Plan_put_step ct_Plan_put_step : Value}
    {f_Plan_takes : Addr} {od_Plan_takes an_Plan_takes : Option Addr} {sl_Plan_takes : Array (Option Value)} {oc_Plan_takes kV_Plan_takes dc_Plan_takes pm_Plan_takes cd_Plan_takes ct_Plan_takes : Value}
    (z_len : PySem.W.nsIn K mainGlobals "len" = some none)
    (z_range : PySem.W.nsIn K mainGlobals "range" = some none)
    (z_abs : PySem.W.nsIn K mainGlobals "abs" = some none)
    (z_sum : PySem.W.nsIn K mainGlobals "sum" = some none)
    (z_sorted : PySem.W.nsIn K mainGlobals "sorted" = some none)
    (z_isinstance : PySem.W.nsIn K mainGlobals "isinstance" = some none)
    (z_zip : PySem.W.nsIn K mainGlobals "zip" = some none)
    (z_enumerate : PySem.W.nsIn K mainGlobals "enumerate" = some none)
    (z_reversed : PySem.W.nsIn K mainGlobals "reversed" = some none)
    (z_int : PySem.W.nsIn K mainGlobals "int" = some none)
    (z_str : PySem.W.nsIn K mainGlobals "str" = some none)
    (z_list : PySem.W.nsIn K mainGlobals "list" = some none)
    (z_tuple : PySem.W.nsIn K mainGlobals "tuple" = some none)
    (z_bool : PySem.W.nsIn K mainGlobals "bool" = some none)
    (z_all : PySem.W.nsIn K mainGlobals "all" = some none)
    (z_any : PySem.W.nsIn K mainGlobals "any" = some none)
    (z_ValueError : PySem.W.nsIn K mainGlobals "ValueError" = some none)
    (z_super : PySem.W.nsIn K mainGlobals "super" = some none)
    (a_LETTERS : PySem.W.nsIn K mainGlobals "LETTERS" = some (some (.str LETTERS t_LETTERS)))
    (a_DIGITS : PySem.W.nsIn K mainGlobals "DIGITS" = some (some (.str DIGITS t_DIGITS)))
    (a_MOST_SIGNS : PySem.W.nsIn K mainGlobals "MOST_SIGNS" = some (some (.int 12 t_MOST_SIGNS)))
    (a_MOST_PLACES : PySem.W.nsIn K mainGlobals "MOST_PLACES" = some (some (.int 12 t_MOST_PLACES)))
    (a_MOST_STEPS : PySem.W.nsIn K mainGlobals "MOST_STEPS" = some (some (.int 16 t_MOST_STEPS)))
    (a_MOST_BEGIN : PySem.W.nsIn K mainGlobals "MOST_BEGIN" = some (some (.int 99 t_MOST_BEGIN)))
    (a_is_word : PySem.W.nsIn K mainGlobals "is_word" = some (some (.ref f_is_word)))
    (l_is_word : K.lookup f_is_word = some ⟨oc_is_word, od_is_word, .func (PySem.W.fnOf "is_word" "is_word" (defArgs s_is_word) (defBody s_is_word) (defScope s_is_word) .none kV_is_word dc_is_word pm_is_word an_is_word cd_is_word ct_is_word), sl_is_word⟩)
    (c_is_word : PySem.W.codeIn K cd_is_word "is_word" = true)
    (k_is_word : PySem.W.keepIn K (.ref f_is_word) = true)
    (a_check_word : PySem.W.nsIn K mainGlobals "check_word" = some (some (.ref f_check_word)))
    (l_check_word : K.lookup f_check_word = some ⟨oc_check_word, od_check_word, .func (PySem.W.fnOf "check_word" "check_word" (defArgs s_check_word) (defBody s_check_word) (defScope s_check_word) .none kV_check_word dc_check_word pm_check_word an_check_word cd_check_word ct_check_word), sl_check_word⟩)
    (c_check_word : PySem.W.codeIn K cd_check_word "check_word" = true)
    (k_check_word : PySem.W.keepIn K (.ref f_check_word) = true)
    (a_check_number : PySem.W.nsIn K mainGlobals "check_number" = some (some (.ref f_check_number)))
    (l_check_number : K.lookup f_check_number = some ⟨oc_check_number, od_check_number, .func (PySem.W.fnOf "check_number" "check_number" (defArgs s_check_number) (defBody s_check_number) (defScope s_check_number) .none kV_check_number dc_check_number pm_check_number an_check_number cd_check_number ct_check_number), sl_check_number⟩)
    (c_check_number : PySem.W.codeIn K cd_check_number "check_number" = true)
    (k_check_number : PySem.W.keepIn K (.ref f_check_number) = true)
    (a_check_names : PySem.W.nsIn K mainGlobals "check_names" = some (some (.ref f_check_names)))
    (l_check_names : K.lookup f_check_names = some ⟨oc_check_names, od_check_names, .func (PySem.W.fnOf "check_names" "check_names" (defArgs s_check_names) (defBody s_check_names) (defScope s_check_names) .none kV_check_names dc_check_names pm_check_names an_check_names cd_check_names ct_check_names), sl_check_names⟩)
    (c_check_names : PySem.W.codeIn K cd_check_names "check_names" = true)
    (k_check_names : PySem.W.keepIn K (.ref f_check_names) = true)
    (a_in_order : PySem.W.nsIn K mainGlobals "in_order" = some (some (.ref f_in_order)))
    (l_in_order : K.lookup f_in_order = some ⟨oc_in_order, od_in_order, .func (PySem.W.fnOf "in_order" "in_order" (defArgs s_in_order) (defBody s_in_order) (defScope s_in_order) .none kV_in_order dc_in_order pm_in_order an_in_order cd_in_order ct_in_order), sl_in_order⟩)
    (c_in_order : PySem.W.codeIn K cd_in_order "in_order" = true)
    (k_in_order : PySem.W.keepIn K (.ref f_in_order) = true)
    (a__law_box : PySem.W.nsIn K mainGlobals "_law_box" = some (some (.ref f__law_box)))
    (l__law_box : K.lookup f__law_box = some ⟨oc__law_box, od__law_box, .func (PySem.W.fnOf "_law_box" "_law_box" (defArgs s__law_box) (defBody s__law_box) (defScope s__law_box) .none kV__law_box dc__law_box pm__law_box an__law_box cd__law_box ct__law_box), sl__law_box⟩)
    (c__law_box : PySem.W.codeIn K cd__law_box "_law_box" = true)
    (k__law_box : PySem.W.keepIn K (.ref f__law_box) = true)
    (a__law_next : PySem.W.nsIn K mainGlobals "_law_next" = some (some (.ref f__law_next)))
    (l__law_next : K.lookup f__law_next = some ⟨oc__law_next, od__law_next, .func (PySem.W.fnOf "_law_next" "_law_next" (defArgs s__law_next) (defBody s__law_next) (defScope s__law_next) .none kV__law_next dc__law_next pm__law_next an__law_next cd__law_next ct__law_next), sl__law_next⟩)
    (c__law_next : PySem.W.codeIn K cd__law_next "_law_next" = true)
    (k__law_next : PySem.W.keepIn K (.ref f__law_next) = true)
    (a__law_word : PySem.W.nsIn K mainGlobals "_law_word" = some (some (.ref f__law_word)))
    (l__law_word : K.lookup f__law_word = some ⟨oc__law_word, od__law_word, .func (PySem.W.fnOf "_law_word" "_law_word" (defArgs s__law_word) (defBody s__law_word) (defScope s__law_word) .none kV__law_word dc__law_word pm__law_word an__law_word cd__law_word ct__law_word), sl__law_word⟩)
    (c__law_word : PySem.W.codeIn K cd__law_word "_law_word" = true)
    (k__law_word : PySem.W.keepIn K (.ref f__law_word) = true)
    (a__law_words : PySem.W.nsIn K mainGlobals "_law_words" = some (some (.ref f__law_words)))
    (l__law_words : K.lookup f__law_words = some ⟨oc__law_words, od__law_words, .func (PySem.W.fnOf "_law_words" "_law_words" (defArgs s__law_words) (defBody s__law_words) (defScope s__law_words) .none kV__law_words dc__law_words pm__law_words an__law_words cd__law_words ct__law_words), sl__law_words⟩)
    (c__law_words : PySem.W.codeIn K cd__law_words "_law_words" = true)
    (k__law_words : PySem.W.keepIn K (.ref f__law_words) = true)
    (a__law_pick : PySem.W.nsIn K mainGlobals "_law_pick" = some (some (.ref f__law_pick)))
    (l__law_pick : K.lookup f__law_pick = some ⟨oc__law_pick, od__law_pick, .func (PySem.W.fnOf "_law_pick" "_law_pick" (defArgs s__law_pick) (defBody s__law_pick) (defScope s__law_pick) .none kV__law_pick dc__law_pick pm__law_pick an__law_pick cd__law_pick ct__law_pick), sl__law_pick⟩)
    (c__law_pick : PySem.W.codeIn K cd__law_pick "_law_pick" = true)
    (k__law_pick : PySem.W.keepIn K (.ref f__law_pick) = true)
    (a__law_any : PySem.W.nsIn K mainGlobals "_law_any" = some (some (.ref f__law_any)))
    (l__law_any : K.lookup f__law_any = some ⟨oc__law_any, od__law_any, .func (PySem.W.fnOf "_law_any" "_law_any" (defArgs s__law_any) (defBody s__law_any) (defScope s__law_any) .none kV__law_any dc__law_any pm__law_any an__law_any cd__law_any ct__law_any), sl__law_any⟩)
    (c__law_any : PySem.W.codeIn K cd__law_any "_law_any" = true)
    (k__law_any : PySem.W.keepIn K (.ref f__law_any) = true)
    (a__law_free : PySem.W.nsIn K mainGlobals "_law_free" = some (some (.ref f__law_free)))
    (l__law_free : K.lookup f__law_free = some ⟨oc__law_free, od__law_free, .func (PySem.W.fnOf "_law_free" "_law_free" (defArgs s__law_free) (defBody s__law_free) (defScope s__law_free) .none kV__law_free dc__law_free pm__law_free an__law_free cd__law_free ct__law_free), sl__law_free⟩)
    (c__law_free : PySem.W.codeIn K cd__law_free "_law_free" = true)
    (k__law_free : PySem.W.keepIn K (.ref f__law_free) = true)
    (a__law_stretched : PySem.W.nsIn K mainGlobals "_law_stretched" = some (some (.ref f__law_stretched)))
    (l__law_stretched : K.lookup f__law_stretched = some ⟨oc__law_stretched, od__law_stretched, .func (PySem.W.fnOf "_law_stretched" "_law_stretched" (defArgs s__law_stretched) (defBody s__law_stretched) (defScope s__law_stretched) .none kV__law_stretched dc__law_stretched pm__law_stretched an__law_stretched cd__law_stretched ct__law_stretched), sl__law_stretched⟩)
    (c__law_stretched : PySem.W.codeIn K cd__law_stretched "_law_stretched" = true)
    (k__law_stretched : PySem.W.keepIn K (.ref f__law_stretched) = true)
    (a__law_twinned : PySem.W.nsIn K mainGlobals "_law_twinned" = some (some (.ref f__law_twinned)))
    (l__law_twinned : K.lookup f__law_twinned = some ⟨oc__law_twinned, od__law_twinned, .func (PySem.W.fnOf "_law_twinned" "_law_twinned" (defArgs s__law_twinned) (defBody s__law_twinned) (defScope s__law_twinned) .none kV__law_twinned dc__law_twinned pm__law_twinned an__law_twinned cd__law_twinned ct__law_twinned), sl__law_twinned⟩)
    (c__law_twinned : PySem.W.codeIn K cd__law_twinned "_law_twinned" = true)
    (k__law_twinned : PySem.W.keepIn K (.ref f__law_twinned) = true)
    (a__law_detoured : PySem.W.nsIn K mainGlobals "_law_detoured" = some (some (.ref f__law_detoured)))
    (l__law_detoured : K.lookup f__law_detoured = some ⟨oc__law_detoured, od__law_detoured, .func (PySem.W.fnOf "_law_detoured" "_law_detoured" (defArgs s__law_detoured) (defBody s__law_detoured) (defScope s__law_detoured) .none kV__law_detoured dc__law_detoured pm__law_detoured an__law_detoured cd__law_detoured ct__law_detoured), sl__law_detoured⟩)
    (c__law_detoured : PySem.W.codeIn K cd__law_detoured "_law_detoured" = true)
    (k__law_detoured : PySem.W.keepIn K (.ref f__law_detoured) = true)
    (a__law_ring : PySem.W.nsIn K mainGlobals "_law_ring" = some (some (.ref f__law_ring)))
    (l__law_ring : K.lookup f__law_ring = some ⟨oc__law_ring, od__law_ring, .func (PySem.W.fnOf "_law_ring" "_law_ring" (defArgs s__law_ring) (defBody s__law_ring) (defScope s__law_ring) .none kV__law_ring dc__law_ring pm__law_ring an__law_ring cd__law_ring ct__law_ring), sl__law_ring⟩)
    (c__law_ring : PySem.W.codeIn K cd__law_ring "_law_ring" = true)
    (k__law_ring : PySem.W.keepIn K (.ref f__law_ring) = true)
    (a__law_grown : PySem.W.nsIn K mainGlobals "_law_grown" = some (some (.ref f__law_grown)))
    (l__law_grown : K.lookup f__law_grown = some ⟨oc__law_grown, od__law_grown, .func (PySem.W.fnOf "_law_grown" "_law_grown" (defArgs s__law_grown) (defBody s__law_grown) (defScope s__law_grown) .none kV__law_grown dc__law_grown pm__law_grown an__law_grown cd__law_grown ct__law_grown), sl__law_grown⟩)
    (c__law_grown : PySem.W.codeIn K cd__law_grown "_law_grown" = true)
    (k__law_grown : PySem.W.keepIn K (.ref f__law_grown) = true)
    (a__law_rows : PySem.W.nsIn K mainGlobals "_law_rows" = some (some (.ref f__law_rows)))
    (l__law_rows : K.lookup f__law_rows = some ⟨oc__law_rows, od__law_rows, .func (PySem.W.fnOf "_law_rows" "_law_rows" (defArgs s__law_rows) (defBody s__law_rows) (defScope s__law_rows) .none kV__law_rows dc__law_rows pm__law_rows an__law_rows cd__law_rows ct__law_rows), sl__law_rows⟩)
    (c__law_rows : PySem.W.codeIn K cd__law_rows "_law_rows" = true)
    (k__law_rows : PySem.W.keepIn K (.ref f__law_rows) = true)
    (a__law_groups : PySem.W.nsIn K mainGlobals "_law_groups" = some (some (.ref f__law_groups)))
    (l__law_groups : K.lookup f__law_groups = some ⟨oc__law_groups, od__law_groups, .func (PySem.W.fnOf "_law_groups" "_law_groups" (defArgs s__law_groups) (defBody s__law_groups) (defScope s__law_groups) .none kV__law_groups dc__law_groups pm__law_groups an__law_groups cd__law_groups ct__law_groups), sl__law_groups⟩)
    (c__law_groups : PySem.W.codeIn K cd__law_groups "_law_groups" = true)
    (k__law_groups : PySem.W.keepIn K (.ref f__law_groups) = true)
    (a__law_refused : PySem.W.nsIn K mainGlobals "_law_refused" = some (some (.ref f__law_refused)))
    (l__law_refused : K.lookup f__law_refused = some ⟨oc__law_refused, od__law_refused, .func (PySem.W.fnOf "_law_refused" "_law_refused" (defArgs s__law_refused) (defBody s__law_refused) (defScope s__law_refused) .none kV__law_refused dc__law_refused pm__law_refused an__law_refused cd__law_refused ct__law_refused), sl__law_refused⟩)
    (c__law_refused : PySem.W.codeIn K cd__law_refused "_law_refused" = true)
    (k__law_refused : PySem.W.keepIn K (.ref f__law_refused) = true)
    (a_choices : PySem.W.nsIn K mainGlobals "choices" = some (some (.ref f_choices)))
    (l_choices : K.lookup f_choices = some ⟨oc_choices, od_choices, .func (PySem.W.fnOf "choices" "choices" (defArgs s_choices) (defBody s_choices) (defScope s_choices) .none kV_choices dc_choices pm_choices an_choices cd_choices ct_choices), sl_choices⟩)
    (c_choices : PySem.W.codeIn K cd_choices "choices" = true)
    (k_choices : PySem.W.keepIn K (.ref f_choices) = true)
    (a_choice_of : PySem.W.nsIn K mainGlobals "choice_of" = some (some (.ref f_choice_of)))
    (l_choice_of : K.lookup f_choice_of = some ⟨oc_choice_of, od_choice_of, .func (PySem.W.fnOf "choice_of" "choice_of" (defArgs s_choice_of) (defBody s_choice_of) (defScope s_choice_of) .none kV_choice_of dc_choice_of pm_choice_of an_choice_of cd_choice_of ct_choice_of), sl_choice_of⟩)
    (c_choice_of : PySem.W.codeIn K cd_choice_of "choice_of" = true)
    (k_choice_of : PySem.W.keepIn K (.ref f_choice_of) = true)
    (a_choice_places : PySem.W.nsIn K mainGlobals "choice_places" = some (some (.ref f_choice_places)))
    (l_choice_places : K.lookup f_choice_places = some ⟨oc_choice_places, od_choice_places, .func (PySem.W.fnOf "choice_places" "choice_places" (defArgs s_choice_places) (defBody s_choice_places) (defScope s_choice_places) .none kV_choice_places dc_choice_places pm_choice_places an_choice_places cd_choice_places ct_choice_places), sl_choice_places⟩)
    (c_choice_places : PySem.W.codeIn K cd_choice_places "choice_places" = true)
    (k_choice_places : PySem.W.keepIn K (.ref f_choice_places) = true)
    (a_law : PySem.W.nsIn K mainGlobals "law" = some (some (.ref f_law)))
    (l_law : K.lookup f_law = some ⟨oc_law, od_law, .func (PySem.W.fnOf "law" "law" (defArgs s_law) (defBody s_law) (defScope s_law) .none kV_law dc_law pm_law an_law cd_law ct_law), sl_law⟩)
    (c_law : PySem.W.codeIn K cd_law "law" = true)
    (k_law : PySem.W.keepIn K (.ref f_law) = true)
    (e_opq : PySem.W.nsIn K cStatics "thirdparty.any" = some none)
    (e_cg : PySem.W.specialIn K (.builtin "object.__class__") "__get__" = some (some (.builtin "getset_descriptor.__get__")))
    (e_ct : PySem.W.takesIn K (.builtin "object.__class__") = some true)
    (aC_BadWord : PySem.W.nsIn K mainGlobals "BadWord" = some (some (.ref C_BadWord)))
    (xL_BadWord : K.lookup C_BadWord = some (excClassObj nm_BadWord q_BadWord C_BadWord N_BadWord bs_BadWord bm_BadWord true sn_BadWord sub_BadWord ab_BadWord col_BadWord dd_BadWord m0_BadWord m1_BadWord m2_BadWord m3_BadWord m5_BadWord "ValueError.__new__"))
    (bm_BadWord : PySem.HandSPX.refsVE bm_BadWord = true)
    (sa_BadWord : PySem.W.findIn K (.ref C_BadWord) "__setattr__" = some (some (.builtin "object.__setattr__")))
    (ga_BadWord : PySem.W.findIn K (.ref C_BadWord) "__getattribute__" = some (some (.builtin "BaseException.__getattribute__")))
    (gg_BadWord : PySem.W.findIn K (.ref C_BadWord) "__getattr__" = some none)
    (no_word_BadWord : PySem.W.findIn K (.ref C_BadWord) "word" = some none)
    (iC_BadWord : PySem.W.findIn K (.ref C_BadWord) "__init__" = some (some (.ref fI_BadWord)))
    (tI_BadWord : PySem.W.typeIn K (.ref fI_BadWord) = some (.type "function"))
    (kC_BadWord : PySem.W.keepIn K (.ref C_BadWord) = true)
    (ex_BadWord : PySem.W.subIn K (.ref C_BadWord) (.type "BaseException") = some true)
    (ve_BadWord : PySem.W.subIn K (.ref C_BadWord) (.type "ValueError") = some true)
    (ty_BadWord : PySem.W.typeIn K (.ref C_BadWord) = some (.type "type"))
    (hd_BadWord : PySem.W.hasDictIn K C_BadWord = true)
    (sup_BadWord : PySem.W.ks_superIn K C_BadWord C_BadWord "__init__" = some (some (.builtin "ValueError.__init__")))
    (mro_BadWord : PySem.W.mroIn K C_BadWord (.ref C_BadWord) = some true)
    (su_BadWord : PySem.W.subIn K (.ref C_BadWord) (.ref C_BadWord) = some true)
    (ca_BadWord : PySem.W.findIn K (.ref C_BadWord) "__class__" = some (some (.builtin "object.__class__")))
    (mo_BadWord : PySem.W.mroIn K C_BadWord (.type "object") = some true)
    (l_BadWord : K.lookup fI_BadWord = some ⟨oc_BadWord, od_BadWord, .func (PySem.W.ksFn "__init__" "BadWord.__init__" (defArgs (inClass (topS 7) 0)) (defBody (inClass (topS 7) 0)) (defScope (inClass (topS 7) 0)) .none kV_BadWord dc_BadWord pm_BadWord an_BadWord (.ref cda_BadWord) ct_BadWord cc_BadWord), sl_BadWord⟩)
    (c_BadWord : PySem.W.codeIn K (.ref cda_BadWord) "BadWord.__init__" = true)
    (lc_BadWord : K.lookup cda_BadWord = some ⟨ccl_BadWord, cdd_BadWord, .fields vs_BadWord, ccs_BadWord⟩)
    (v2_BadWord : vs_BadWord[2]? = some (.str file_BadWord tf_BadWord))
    (fl_BadWord : ((P.main.file : Str) == file_BadWord) = true)
    (cc_BadWord : K.lookup cc_BadWord = some ⟨cl_BadWord, cld_BadWord, .cell (some (.ref C_BadWord)), csl_BadWord⟩)
    (aC_BadNumber : PySem.W.nsIn K mainGlobals "BadNumber" = some (some (.ref C_BadNumber)))
    (xL_BadNumber : K.lookup C_BadNumber = some (excClassObj nm_BadNumber q_BadNumber C_BadNumber N_BadNumber bs_BadNumber bm_BadNumber true sn_BadNumber sub_BadNumber ab_BadNumber col_BadNumber dd_BadNumber m0_BadNumber m1_BadNumber m2_BadNumber m3_BadNumber m5_BadNumber "ValueError.__new__"))
    (bm_BadNumber : PySem.HandSPX.refsVE bm_BadNumber = true)
    (sa_BadNumber : PySem.W.findIn K (.ref C_BadNumber) "__setattr__" = some (some (.builtin "object.__setattr__")))
    (ga_BadNumber : PySem.W.findIn K (.ref C_BadNumber) "__getattribute__" = some (some (.builtin "BaseException.__getattribute__")))
    (gg_BadNumber : PySem.W.findIn K (.ref C_BadNumber) "__getattr__" = some none)
    (no_number_BadNumber : PySem.W.findIn K (.ref C_BadNumber) "number" = some none)
    (iC_BadNumber : PySem.W.findIn K (.ref C_BadNumber) "__init__" = some (some (.ref fI_BadNumber)))
    (tI_BadNumber : PySem.W.typeIn K (.ref fI_BadNumber) = some (.type "function"))
    (kC_BadNumber : PySem.W.keepIn K (.ref C_BadNumber) = true)
    (ex_BadNumber : PySem.W.subIn K (.ref C_BadNumber) (.type "BaseException") = some true)
    (ve_BadNumber : PySem.W.subIn K (.ref C_BadNumber) (.type "ValueError") = some true)
    (ty_BadNumber : PySem.W.typeIn K (.ref C_BadNumber) = some (.type "type"))
    (hd_BadNumber : PySem.W.hasDictIn K C_BadNumber = true)
    (sup_BadNumber : PySem.W.ks_superIn K C_BadNumber C_BadNumber "__init__" = some (some (.builtin "ValueError.__init__")))
    (mro_BadNumber : PySem.W.mroIn K C_BadNumber (.ref C_BadNumber) = some true)
    (su_BadNumber : PySem.W.subIn K (.ref C_BadNumber) (.ref C_BadNumber) = some true)
    (ca_BadNumber : PySem.W.findIn K (.ref C_BadNumber) "__class__" = some (some (.builtin "object.__class__")))
    (mo_BadNumber : PySem.W.mroIn K C_BadNumber (.type "object") = some true)
    (l_BadNumber : K.lookup fI_BadNumber = some ⟨oc_BadNumber, od_BadNumber, .func (PySem.W.ksFn "__init__" "BadNumber.__init__" (defArgs (inClass (topS 8) 0)) (defBody (inClass (topS 8) 0)) (defScope (inClass (topS 8) 0)) .none kV_BadNumber dc_BadNumber pm_BadNumber an_BadNumber (.ref cda_BadNumber) ct_BadNumber cc_BadNumber), sl_BadNumber⟩)
    (c_BadNumber : PySem.W.codeIn K (.ref cda_BadNumber) "BadNumber.__init__" = true)
    (lc_BadNumber : K.lookup cda_BadNumber = some ⟨ccl_BadNumber, cdd_BadNumber, .fields vs_BadNumber, ccs_BadNumber⟩)
    (v2_BadNumber : vs_BadNumber[2]? = some (.str file_BadNumber tf_BadNumber))
    (fl_BadNumber : ((P.main.file : Str) == file_BadNumber) = true)
    (cc_BadNumber : K.lookup cc_BadNumber = some ⟨cl_BadNumber, cld_BadNumber, .cell (some (.ref C_BadNumber)), csl_BadNumber⟩)
    (aC_UnknownName : PySem.W.nsIn K mainGlobals "UnknownName" = some (some (.ref C_UnknownName)))
    (xL_UnknownName : K.lookup C_UnknownName = some (excClassObj nm_UnknownName q_UnknownName C_UnknownName N_UnknownName bs_UnknownName bm_UnknownName true sn_UnknownName sub_UnknownName ab_UnknownName col_UnknownName dd_UnknownName m0_UnknownName m1_UnknownName m2_UnknownName m3_UnknownName m5_UnknownName "ValueError.__new__"))
    (bm_UnknownName : PySem.HandSPX.refsVE bm_UnknownName = true)
    (sa_UnknownName : PySem.W.findIn K (.ref C_UnknownName) "__setattr__" = some (some (.builtin "object.__setattr__")))
    (ga_UnknownName : PySem.W.findIn K (.ref C_UnknownName) "__getattribute__" = some (some (.builtin "BaseException.__getattribute__")))
    (gg_UnknownName : PySem.W.findIn K (.ref C_UnknownName) "__getattr__" = some none)
    (no_name_UnknownName : PySem.W.findIn K (.ref C_UnknownName) "name" = some none)
    (iC_UnknownName : PySem.W.findIn K (.ref C_UnknownName) "__init__" = some (some (.ref fI_UnknownName)))
    (tI_UnknownName : PySem.W.typeIn K (.ref fI_UnknownName) = some (.type "function"))
    (kC_UnknownName : PySem.W.keepIn K (.ref C_UnknownName) = true)
    (ex_UnknownName : PySem.W.subIn K (.ref C_UnknownName) (.type "BaseException") = some true)
    (ve_UnknownName : PySem.W.subIn K (.ref C_UnknownName) (.type "ValueError") = some true)
    (ty_UnknownName : PySem.W.typeIn K (.ref C_UnknownName) = some (.type "type"))
    (hd_UnknownName : PySem.W.hasDictIn K C_UnknownName = true)
    (sup_UnknownName : PySem.W.ks_superIn K C_UnknownName C_UnknownName "__init__" = some (some (.builtin "ValueError.__init__")))
    (mro_UnknownName : PySem.W.mroIn K C_UnknownName (.ref C_UnknownName) = some true)
    (su_UnknownName : PySem.W.subIn K (.ref C_UnknownName) (.ref C_UnknownName) = some true)
    (ca_UnknownName : PySem.W.findIn K (.ref C_UnknownName) "__class__" = some (some (.builtin "object.__class__")))
    (mo_UnknownName : PySem.W.mroIn K C_UnknownName (.type "object") = some true)
    (l_UnknownName : K.lookup fI_UnknownName = some ⟨oc_UnknownName, od_UnknownName, .func (PySem.W.ksFn "__init__" "UnknownName.__init__" (defArgs (inClass (topS 9) 0)) (defBody (inClass (topS 9) 0)) (defScope (inClass (topS 9) 0)) .none kV_UnknownName dc_UnknownName pm_UnknownName an_UnknownName (.ref cda_UnknownName) ct_UnknownName cc_UnknownName), sl_UnknownName⟩)
    (c_UnknownName : PySem.W.codeIn K (.ref cda_UnknownName) "UnknownName.__init__" = true)
    (lc_UnknownName : K.lookup cda_UnknownName = some ⟨ccl_UnknownName, cdd_UnknownName, .fields vs_UnknownName, ccs_UnknownName⟩)
    (v2_UnknownName : vs_UnknownName[2]? = some (.str file_UnknownName tf_UnknownName))
    (fl_UnknownName : ((P.main.file : Str) == file_UnknownName) = true)
    (cc_UnknownName : K.lookup cc_UnknownName = some ⟨cl_UnknownName, cld_UnknownName, .cell (some (.ref C_UnknownName)), csl_UnknownName⟩)
    (aC_DoubleName : PySem.W.nsIn K mainGlobals "DoubleName" = some (some (.ref C_DoubleName)))
    (xL_DoubleName : K.lookup C_DoubleName = some (excClassObj nm_DoubleName q_DoubleName C_DoubleName N_DoubleName bs_DoubleName bm_DoubleName true sn_DoubleName sub_DoubleName ab_DoubleName col_DoubleName dd_DoubleName m0_DoubleName m1_DoubleName m2_DoubleName m3_DoubleName m5_DoubleName "ValueError.__new__"))
    (bm_DoubleName : PySem.HandSPX.refsVE bm_DoubleName = true)
    (sa_DoubleName : PySem.W.findIn K (.ref C_DoubleName) "__setattr__" = some (some (.builtin "object.__setattr__")))
    (ga_DoubleName : PySem.W.findIn K (.ref C_DoubleName) "__getattribute__" = some (some (.builtin "BaseException.__getattribute__")))
    (gg_DoubleName : PySem.W.findIn K (.ref C_DoubleName) "__getattr__" = some none)
    (no_name_DoubleName : PySem.W.findIn K (.ref C_DoubleName) "name" = some none)
    (iC_DoubleName : PySem.W.findIn K (.ref C_DoubleName) "__init__" = some (some (.ref fI_DoubleName)))
    (tI_DoubleName : PySem.W.typeIn K (.ref fI_DoubleName) = some (.type "function"))
    (kC_DoubleName : PySem.W.keepIn K (.ref C_DoubleName) = true)
    (ex_DoubleName : PySem.W.subIn K (.ref C_DoubleName) (.type "BaseException") = some true)
    (ve_DoubleName : PySem.W.subIn K (.ref C_DoubleName) (.type "ValueError") = some true)
    (ty_DoubleName : PySem.W.typeIn K (.ref C_DoubleName) = some (.type "type"))
    (hd_DoubleName : PySem.W.hasDictIn K C_DoubleName = true)
    (sup_DoubleName : PySem.W.ks_superIn K C_DoubleName C_DoubleName "__init__" = some (some (.builtin "ValueError.__init__")))
    (mro_DoubleName : PySem.W.mroIn K C_DoubleName (.ref C_DoubleName) = some true)
    (su_DoubleName : PySem.W.subIn K (.ref C_DoubleName) (.ref C_DoubleName) = some true)
    (ca_DoubleName : PySem.W.findIn K (.ref C_DoubleName) "__class__" = some (some (.builtin "object.__class__")))
    (mo_DoubleName : PySem.W.mroIn K C_DoubleName (.type "object") = some true)
    (l_DoubleName : K.lookup fI_DoubleName = some ⟨oc_DoubleName, od_DoubleName, .func (PySem.W.ksFn "__init__" "DoubleName.__init__" (defArgs (inClass (topS 10) 0)) (defBody (inClass (topS 10) 0)) (defScope (inClass (topS 10) 0)) .none kV_DoubleName dc_DoubleName pm_DoubleName an_DoubleName (.ref cda_DoubleName) ct_DoubleName cc_DoubleName), sl_DoubleName⟩)
    (c_DoubleName : PySem.W.codeIn K (.ref cda_DoubleName) "DoubleName.__init__" = true)
    (lc_DoubleName : K.lookup cda_DoubleName = some ⟨ccl_DoubleName, cdd_DoubleName, .fields vs_DoubleName, ccs_DoubleName⟩)
    (v2_DoubleName : vs_DoubleName[2]? = some (.str file_DoubleName tf_DoubleName))
    (fl_DoubleName : ((P.main.file : Str) == file_DoubleName) = true)
    (cc_DoubleName : K.lookup cc_DoubleName = some ⟨cl_DoubleName, cld_DoubleName, .cell (some (.ref C_DoubleName)), csl_DoubleName⟩)
    (aC_EmptyStep : PySem.W.nsIn K mainGlobals "EmptyStep" = some (some (.ref C_EmptyStep)))
    (xL_EmptyStep : K.lookup C_EmptyStep = some (excClassObj nm_EmptyStep q_EmptyStep C_EmptyStep N_EmptyStep bs_EmptyStep bm_EmptyStep true sn_EmptyStep sub_EmptyStep ab_EmptyStep col_EmptyStep dd_EmptyStep m0_EmptyStep m1_EmptyStep m2_EmptyStep m3_EmptyStep m5_EmptyStep "ValueError.__new__"))
    (bm_EmptyStep : PySem.HandSPX.refsVE bm_EmptyStep = true)
    (sa_EmptyStep : PySem.W.findIn K (.ref C_EmptyStep) "__setattr__" = some (some (.builtin "object.__setattr__")))
    (ga_EmptyStep : PySem.W.findIn K (.ref C_EmptyStep) "__getattribute__" = some (some (.builtin "BaseException.__getattribute__")))
    (gg_EmptyStep : PySem.W.findIn K (.ref C_EmptyStep) "__getattr__" = some none)
    (no_name_EmptyStep : PySem.W.findIn K (.ref C_EmptyStep) "name" = some none)
    (iC_EmptyStep : PySem.W.findIn K (.ref C_EmptyStep) "__init__" = some (some (.ref fI_EmptyStep)))
    (tI_EmptyStep : PySem.W.typeIn K (.ref fI_EmptyStep) = some (.type "function"))
    (kC_EmptyStep : PySem.W.keepIn K (.ref C_EmptyStep) = true)
    (ex_EmptyStep : PySem.W.subIn K (.ref C_EmptyStep) (.type "BaseException") = some true)
    (ve_EmptyStep : PySem.W.subIn K (.ref C_EmptyStep) (.type "ValueError") = some true)
    (ty_EmptyStep : PySem.W.typeIn K (.ref C_EmptyStep) = some (.type "type"))
    (hd_EmptyStep : PySem.W.hasDictIn K C_EmptyStep = true)
    (sup_EmptyStep : PySem.W.ks_superIn K C_EmptyStep C_EmptyStep "__init__" = some (some (.builtin "ValueError.__init__")))
    (mro_EmptyStep : PySem.W.mroIn K C_EmptyStep (.ref C_EmptyStep) = some true)
    (su_EmptyStep : PySem.W.subIn K (.ref C_EmptyStep) (.ref C_EmptyStep) = some true)
    (ca_EmptyStep : PySem.W.findIn K (.ref C_EmptyStep) "__class__" = some (some (.builtin "object.__class__")))
    (mo_EmptyStep : PySem.W.mroIn K C_EmptyStep (.type "object") = some true)
    (l_EmptyStep : K.lookup fI_EmptyStep = some ⟨oc_EmptyStep, od_EmptyStep, .func (PySem.W.ksFn "__init__" "EmptyStep.__init__" (defArgs (inClass (topS 11) 0)) (defBody (inClass (topS 11) 0)) (defScope (inClass (topS 11) 0)) .none kV_EmptyStep dc_EmptyStep pm_EmptyStep an_EmptyStep (.ref cda_EmptyStep) ct_EmptyStep cc_EmptyStep), sl_EmptyStep⟩)
    (c_EmptyStep : PySem.W.codeIn K (.ref cda_EmptyStep) "EmptyStep.__init__" = true)
    (lc_EmptyStep : K.lookup cda_EmptyStep = some ⟨ccl_EmptyStep, cdd_EmptyStep, .fields vs_EmptyStep, ccs_EmptyStep⟩)
    (v2_EmptyStep : vs_EmptyStep[2]? = some (.str file_EmptyStep tf_EmptyStep))
    (fl_EmptyStep : ((P.main.file : Str) == file_EmptyStep) = true)
    (cc_EmptyStep : K.lookup cc_EmptyStep = some ⟨cl_EmptyStep, cld_EmptyStep, .cell (some (.ref C_EmptyStep)), csl_EmptyStep⟩)
    (aC_TooMany : PySem.W.nsIn K mainGlobals "TooMany" = some (some (.ref C_TooMany)))
    (xL_TooMany : K.lookup C_TooMany = some (excClassObj nm_TooMany q_TooMany C_TooMany N_TooMany bs_TooMany bm_TooMany true sn_TooMany sub_TooMany ab_TooMany col_TooMany dd_TooMany m0_TooMany m1_TooMany m2_TooMany m3_TooMany m5_TooMany "ValueError.__new__"))
    (bm_TooMany : PySem.HandSPX.refsVE bm_TooMany = true)
    (sa_TooMany : PySem.W.findIn K (.ref C_TooMany) "__setattr__" = some (some (.builtin "object.__setattr__")))
    (ga_TooMany : PySem.W.findIn K (.ref C_TooMany) "__getattribute__" = some (some (.builtin "BaseException.__getattribute__")))
    (gg_TooMany : PySem.W.findIn K (.ref C_TooMany) "__getattr__" = some none)
    (no_kind_TooMany : PySem.W.findIn K (.ref C_TooMany) "kind" = some none)
    (no_limit_TooMany : PySem.W.findIn K (.ref C_TooMany) "limit" = some none)
    (iC_TooMany : PySem.W.findIn K (.ref C_TooMany) "__init__" = some (some (.ref fI_TooMany)))
    (tI_TooMany : PySem.W.typeIn K (.ref fI_TooMany) = some (.type "function"))
    (kC_TooMany : PySem.W.keepIn K (.ref C_TooMany) = true)
    (ex_TooMany : PySem.W.subIn K (.ref C_TooMany) (.type "BaseException") = some true)
    (ve_TooMany : PySem.W.subIn K (.ref C_TooMany) (.type "ValueError") = some true)
    (ty_TooMany : PySem.W.typeIn K (.ref C_TooMany) = some (.type "type"))
    (hd_TooMany : PySem.W.hasDictIn K C_TooMany = true)
    (sup_TooMany : PySem.W.ks_superIn K C_TooMany C_TooMany "__init__" = some (some (.builtin "ValueError.__init__")))
    (mro_TooMany : PySem.W.mroIn K C_TooMany (.ref C_TooMany) = some true)
    (su_TooMany : PySem.W.subIn K (.ref C_TooMany) (.ref C_TooMany) = some true)
    (ca_TooMany : PySem.W.findIn K (.ref C_TooMany) "__class__" = some (some (.builtin "object.__class__")))
    (mo_TooMany : PySem.W.mroIn K C_TooMany (.type "object") = some true)
    (l_TooMany : K.lookup fI_TooMany = some ⟨oc_TooMany, od_TooMany, .func (PySem.W.ksFn "__init__" "TooMany.__init__" (defArgs (inClass (topS 12) 0)) (defBody (inClass (topS 12) 0)) (defScope (inClass (topS 12) 0)) .none kV_TooMany dc_TooMany pm_TooMany an_TooMany (.ref cda_TooMany) ct_TooMany cc_TooMany), sl_TooMany⟩)
    (c_TooMany : PySem.W.codeIn K (.ref cda_TooMany) "TooMany.__init__" = true)
    (lc_TooMany : K.lookup cda_TooMany = some ⟨ccl_TooMany, cdd_TooMany, .fields vs_TooMany, ccs_TooMany⟩)
    (v2_TooMany : vs_TooMany[2]? = some (.str file_TooMany tf_TooMany))
    (fl_TooMany : ((P.main.file : Str) == file_TooMany) = true)
    (cc_TooMany : K.lookup cc_TooMany = some ⟨cl_TooMany, cld_TooMany, .cell (some (.ref C_TooMany)), csl_TooMany⟩)
    (aC_Plan : PySem.W.nsIn K mainGlobals "Plan" = some (some (.ref C_Plan)))
    (pg_Plan : PySem.W.plainGet K C_Plan Str.empty = true)
    (hd_Plan : PySem.W.hasDictIn K C_Plan = true)
    (po_Plan : PySem.W.plainOver K C_Plan = true)
    (sa_Plan : PySem.W.findIn K (.ref C_Plan) "__setattr__" = some (some (.builtin "object.__setattr__")))
    (no_places_Plan : PySem.W.findIn K (.ref C_Plan) "places" = some none)
    (no_begin_Plan : PySem.W.findIn K (.ref C_Plan) "begin" = some none)
    (no_taken_Plan : PySem.W.findIn K (.ref C_Plan) "taken" = some none)
    (no_given_Plan : PySem.W.findIn K (.ref C_Plan) "given" = some none)
    (no_steps_Plan : PySem.W.findIn K (.ref C_Plan) "steps" = some none)
    (mk_Plan : PySem.W.makesIn K C_Plan = true)
    (kC_Plan : PySem.W.keepIn K (.ref C_Plan) = true)
    (a_Plan___init__ : PySem.W.findIn K (.ref C_Plan) "__init__" = some (some (.ref f_Plan___init__)))
    (i_Plan___init__ : PySem.W.isFn K (.ref f_Plan___init__) = true)
    (l_Plan___init__ : K.lookup f_Plan___init__ = some ⟨oc_Plan___init__, od_Plan___init__, .func (PySem.W.fnOf "__init__" "Plan.__init__" (defArgs s_Plan___init__) (defBody s_Plan___init__) (defScope s_Plan___init__) .none kV_Plan___init__ dc_Plan___init__ pm_Plan___init__ an_Plan___init__ cd_Plan___init__ ct_Plan___init__), sl_Plan___init__⟩)
    (c_Plan___init__ : PySem.W.codeIn K cd_Plan___init__ "Plan.__init__" = true)
    (k_Plan___init__ : PySem.W.keepIn K (.ref f_Plan___init__) = true)
    (a_Plan_put_step : PySem.W.findIn K (.ref C_Plan) "put_step" = some (some (.ref f_Plan_put_step)))
    (i_Plan_put_step : PySem.W.isFn K (.ref f_Plan_put_step) = true)
    (l_Plan_put_step : K.lookup f_Plan_put_step = some ⟨oc_Plan_put_step, od_Plan_put_step, .func (PySem.W.fnOf "put_step" "Plan.put_step" (defArgs s_Plan_put_step) (defBody s_Plan_put_step) (defScope s_Plan_put_step) .none kV_Plan_put_step dc_Plan_put_step pm_Plan_put_step an_Plan_put_step cd_Plan_put_step ct_Plan_put_step), sl_Plan_put_step⟩)
    (c_Plan_put_step : PySem.W.codeIn K cd_Plan_put_step "Plan.put_step" = true)
    (k_Plan_put_step : PySem.W.keepIn K (.ref f_Plan_put_step) = true)
    (a_Plan_takes : PySem.W.findIn K (.ref C_Plan) "takes" = some (some (.ref f_Plan_takes)))
    (i_Plan_takes : PySem.W.isFn K (.ref f_Plan_takes) = true)
    (l_Plan_takes : K.lookup f_Plan_takes = some ⟨oc_Plan_takes, od_Plan_takes, .func (PySem.W.fnOf "takes" "Plan.takes" (defArgs s_Plan_takes) (defBody s_Plan_takes) (defScope s_Plan_takes) .none kV_Plan_takes dc_Plan_takes pm_Plan_takes an_Plan_takes cd_Plan_takes ct_Plan_takes), sl_Plan_takes⟩)
    (c_Plan_takes : PySem.W.codeIn K cd_Plan_takes "Plan.takes" = true)
    (k_Plan_takes : PySem.W.keepIn K (.ref f_Plan_takes) = true) :
    ∃ fd : FuncData, (∀ (s : Shared) (v : Value), BindsTo s fd ⟨[v], []⟩ [("_law_script", v)]) ∧ ∀ base : Heap, K.In base → base.Ns mainGlobals mg → FnOk P w K mg base CX0 6 fa fd ["_law_script"] (spLaw K) := by
  have e := hfa.symm.trans (PySem.W.mg_of X G a_law)
  cases e
  have B : Bl mg := ⟨PySem.W.mg_none_of X G z_len, PySem.W.mg_none_of X G z_range, PySem.W.mg_none_of X G z_abs, PySem.W.mg_none_of X G z_sum, PySem.W.mg_none_of X G z_sorted, PySem.W.mg_none_of X G z_isinstance, PySem.W.mg_none_of X G z_zip, PySem.W.mg_none_of X G z_enumerate, PySem.W.mg_none_of X G z_reversed, PySem.W.mg_none_of X G z_int, PySem.W.mg_none_of X G z_str, PySem.W.mg_none_of X G z_list, PySem.W.mg_none_of X G z_tuple, PySem.W.mg_none_of X G z_bool, PySem.W.mg_none_of X G z_all, PySem.W.mg_none_of X G z_any, PySem.W.mg_none_of X G z_ValueError⟩
  have g_LETTERS := glo_str X G a_LETTERS
  have g_DIGITS := glo_str X G a_DIGITS
  have g_MOST_SIGNS := glo_int X G a_MOST_SIGNS
  have g_MOST_PLACES := glo_int X G a_MOST_PLACES
  have g_MOST_STEPS := glo_int X G a_MOST_STEPS
  have g_MOST_BEGIN := glo_int X G a_MOST_BEGIN
  have F_is_word : Src K mg "is_word" s_is_word ["word"] := src_mk X G a_is_word l_is_word c_is_word k_is_word (fun _ _ _ _ _ _ us hl => match us, hl with | [_], _ => rfl)
  have F_check_word : Src K mg "check_word" s_check_word ["word"] := src_mk X G a_check_word l_check_word c_check_word k_check_word (fun _ _ _ _ _ _ us hl => match us, hl with | [_], _ => rfl)
  have F_check_number : Src K mg "check_number" s_check_number ["number", "least", "most"] := src_mk X G a_check_number l_check_number c_check_number k_check_number (fun _ _ _ _ _ _ us hl => match us, hl with | [_, _, _], _ => rfl)
  have F_check_names : Src K mg "check_names" s_check_names ["names", "known"] := src_mk X G a_check_names l_check_names c_check_names k_check_names (fun _ _ _ _ _ _ us hl => match us, hl with | [_, _], _ => rfl)
  have F_in_order : Src K mg "in_order" s_in_order ["names", "places"] := src_mk X G a_in_order l_in_order c_in_order k_in_order (fun _ _ _ _ _ _ us hl => match us, hl with | [_, _], _ => rfl)
  have F__law_box : Src K mg "_law_box" s__law_box ["_law_script"] := src_mk X G a__law_box l__law_box c__law_box k__law_box (fun _ _ _ _ _ _ us hl => match us, hl with | [_], _ => rfl)
  have F__law_next : Src K mg "_law_next" s__law_next ["_law_box_here", "_law_many"] := src_mk X G a__law_next l__law_next c__law_next k__law_next (fun _ _ _ _ _ _ us hl => match us, hl with | [_, _], _ => rfl)
  have F__law_word : Src K mg "_law_word" s__law_word ["_law_box_here"] := src_mk X G a__law_word l__law_word c__law_word k__law_word (fun _ _ _ _ _ _ us hl => match us, hl with | [_], _ => rfl)
  have F__law_words : Src K mg "_law_words" s__law_words ["_law_box_here", "_law_many"] := src_mk X G a__law_words l__law_words c__law_words k__law_words (fun _ _ _ _ _ _ us hl => match us, hl with | [_, _], _ => rfl)
  have F__law_pick : Src K mg "_law_pick" s__law_pick ["_law_box_here", "_law_words_here", "_law_least"] := src_mk X G a__law_pick l__law_pick c__law_pick k__law_pick (fun _ _ _ _ _ _ us hl => match us, hl with | [_, _, _], _ => rfl)
  have F__law_any : Src K mg "_law_any" s__law_any ["_law_box_here"] := src_mk X G a__law_any l__law_any c__law_any k__law_any (fun _ _ _ _ _ _ us hl => match us, hl with | [_], _ => rfl)
  have F__law_free : Src K mg "_law_free" s__law_free ["_law_box_here"] := src_mk X G a__law_free l__law_free c__law_free k__law_free (fun _ _ _ _ _ _ us hl => match us, hl with | [_], _ => rfl)
  have F__law_stretched : Src K mg "_law_stretched" s__law_stretched ["_law_places", "_law_steps", "_law_place", "_law_word_here", "_law_name"] := src_mk X G a__law_stretched l__law_stretched c__law_stretched k__law_stretched (fun _ _ _ _ _ _ us hl => match us, hl with | [_, _, _, _, _], _ => rfl)
  have F__law_twinned : Src K mg "_law_twinned" s__law_twinned ["_law_places", "_law_steps", "_law_place", "_law_word_here"] := src_mk X G a__law_twinned l__law_twinned c__law_twinned k__law_twinned (fun _ _ _ _ _ _ us hl => match us, hl with | [_, _, _, _], _ => rfl)
  have F__law_detoured : Src K mg "_law_detoured" s__law_detoured ["_law_places", "_law_steps", "_law_place", "_law_word_here", "_law_names"] := src_mk X G a__law_detoured l__law_detoured c__law_detoured k__law_detoured (fun _ _ _ _ _ _ us hl => match us, hl with | [_, _, _, _, _], _ => rfl)
  have F__law_ring : Src K mg "_law_ring" s__law_ring ["_law_box_here", "_law_words_here", "_law_names"] := src_mk X G a__law_ring l__law_ring c__law_ring k__law_ring (fun _ _ _ _ _ _ us hl => match us, hl with | [_, _, _], _ => rfl)
  have F__law_grown : Src K mg "_law_grown" s__law_grown ["_law_box_here"] := src_mk X G a__law_grown l__law_grown c__law_grown k__law_grown (fun _ _ _ _ _ _ us hl => match us, hl with | [_], _ => rfl)
  have F__law_rows : Src K mg "_law_rows" s__law_rows ["_law_box_here"] := src_mk X G a__law_rows l__law_rows c__law_rows k__law_rows (fun _ _ _ _ _ _ us hl => match us, hl with | [_], _ => rfl)
  have F__law_groups : Src K mg "_law_groups" s__law_groups ["_law_rows_here"] := src_mk X G a__law_groups l__law_groups c__law_groups k__law_groups (fun _ _ _ _ _ _ us hl => match us, hl with | [_], _ => rfl)
  have F__law_refused : Src K mg "_law_refused" s__law_refused ["_law_plan", "_law_name", "_law_way"] := src_mk X G a__law_refused l__law_refused c__law_refused k__law_refused (fun _ _ _ _ _ _ us hl => match us, hl with | [_, _, _], _ => rfl)
  have F_choices : Src K mg "choices" s_choices ["plan"] := src_mk X G a_choices l_choices c_choices k_choices (fun _ _ _ _ _ _ us hl => match us, hl with | [_], _ => rfl)
  have F_choice_of : Src K mg "choice_of" s_choice_of ["plan", "step"] := src_mk X G a_choice_of l_choice_of c_choice_of k_choice_of (fun _ _ _ _ _ _ us hl => match us, hl with | [_, _], _ => rfl)
  have F_choice_places : Src K mg "choice_places" s_choice_places ["plan", "step"] := src_mk X G a_choice_places l_choice_places c_choice_places k_choice_places (fun _ _ _ _ _ _ us hl => match us, hl with | [_, _], _ => rfl)
  have nn_BadWord : ∀ f ∈ (["word"] : List Str), PySem.W.findIn K (.ref C_BadWord) f = some none := fun f hf => by
      simp only [List.mem_cons, List.not_mem_nil, or_false] at hf
      rcases hf with rfl
      · exact no_word_BadWord
  have X_BadWord : ErrTxt P K mg false "BadWord" C_BadWord fI_BadWord ["word"] := err_mk (st := inClass (topS 7) 0) (fp := [("word", _, _, _, _)]) X G aC_BadWord z_super xL_BadWord bm_BadWord sa_BadWord ga_BadWord gg_BadWord nn_BadWord
    iC_BadWord tI_BadWord kC_BadWord ex_BadWord ve_BadWord ty_BadWord hd_BadWord sup_BadWord mro_BadWord su_BadWord ca_BadWord e_cg e_ct mo_BadWord e_opq top l_BadWord c_BadWord lc_BadWord v2_BadWord fl_BadWord cc_BadWord rfl rfl rfl rfl (by decide +kernel) (by decide +kernel) (by decide +kernel) (by decide +kernel) (by decide +kernel) (by decide +kernel) (by decide +kernel) rfl rfl rfl
    (fun _ _ _ _ _ _ _ s x us hl => match us, hl with | [_], _ => .of_eq rfl) (fun x us hl => match us, hl with | [_], _ => ⟨by rfl, .cons (by rfl) (.nil)⟩) (.inl ⟨rfl, _, _, _, rfl⟩)
  have nn_BadNumber : ∀ f ∈ (["number"] : List Str), PySem.W.findIn K (.ref C_BadNumber) f = some none := fun f hf => by
      simp only [List.mem_cons, List.not_mem_nil, or_false] at hf
      rcases hf with rfl
      · exact no_number_BadNumber
  have X_BadNumber : ErrTxt P K mg false "BadNumber" C_BadNumber fI_BadNumber ["number"] := err_mk (st := inClass (topS 8) 0) (fp := [("number", _, _, _, _)]) X G aC_BadNumber z_super xL_BadNumber bm_BadNumber sa_BadNumber ga_BadNumber gg_BadNumber nn_BadNumber
    iC_BadNumber tI_BadNumber kC_BadNumber ex_BadNumber ve_BadNumber ty_BadNumber hd_BadNumber sup_BadNumber mro_BadNumber su_BadNumber ca_BadNumber e_cg e_ct mo_BadNumber e_opq top l_BadNumber c_BadNumber lc_BadNumber v2_BadNumber fl_BadNumber cc_BadNumber rfl rfl rfl rfl (by decide +kernel) (by decide +kernel) (by decide +kernel) (by decide +kernel) (by decide +kernel) (by decide +kernel) (by decide +kernel) rfl rfl rfl
    (fun _ _ _ _ _ _ _ s x us hl => match us, hl with | [_], _ => .of_eq rfl) (fun x us hl => match us, hl with | [_], _ => ⟨by rfl, .cons (by rfl) (.nil)⟩) (.inl ⟨rfl, _, _, _, rfl⟩)
  have nn_UnknownName : ∀ f ∈ (["name"] : List Str), PySem.W.findIn K (.ref C_UnknownName) f = some none := fun f hf => by
      simp only [List.mem_cons, List.not_mem_nil, or_false] at hf
      rcases hf with rfl
      · exact no_name_UnknownName
  have X_UnknownName : ErrTxt P K mg false "UnknownName" C_UnknownName fI_UnknownName ["name"] := err_mk (st := inClass (topS 9) 0) (fp := [("name", _, _, _, _)]) X G aC_UnknownName z_super xL_UnknownName bm_UnknownName sa_UnknownName ga_UnknownName gg_UnknownName nn_UnknownName
    iC_UnknownName tI_UnknownName kC_UnknownName ex_UnknownName ve_UnknownName ty_UnknownName hd_UnknownName sup_UnknownName mro_UnknownName su_UnknownName ca_UnknownName e_cg e_ct mo_UnknownName e_opq top l_UnknownName c_UnknownName lc_UnknownName v2_UnknownName fl_UnknownName cc_UnknownName rfl rfl rfl rfl (by decide +kernel) (by decide +kernel) (by decide +kernel) (by decide +kernel) (by decide +kernel) (by decide +kernel) (by decide +kernel) rfl rfl rfl
    (fun _ _ _ _ _ _ _ s x us hl => match us, hl with | [_], _ => .of_eq rfl) (fun x us hl => match us, hl with | [_], _ => ⟨by rfl, .cons (by rfl) (.nil)⟩) (.inl ⟨rfl, _, _, _, rfl⟩)
  have nn_DoubleName : ∀ f ∈ (["name"] : List Str), PySem.W.findIn K (.ref C_DoubleName) f = some none := fun f hf => by
      simp only [List.mem_cons, List.not_mem_nil, or_false] at hf
      rcases hf with rfl
      · exact no_name_DoubleName
  have X_DoubleName : ErrTxt P K mg false "DoubleName" C_DoubleName fI_DoubleName ["name"] := err_mk (st := inClass (topS 10) 0) (fp := [("name", _, _, _, _)]) X G aC_DoubleName z_super xL_DoubleName bm_DoubleName sa_DoubleName ga_DoubleName gg_DoubleName nn_DoubleName
    iC_DoubleName tI_DoubleName kC_DoubleName ex_DoubleName ve_DoubleName ty_DoubleName hd_DoubleName sup_DoubleName mro_DoubleName su_DoubleName ca_DoubleName e_cg e_ct mo_DoubleName e_opq top l_DoubleName c_DoubleName lc_DoubleName v2_DoubleName fl_DoubleName cc_DoubleName rfl rfl rfl rfl (by decide +kernel) (by decide +kernel) (by decide +kernel) (by decide +kernel) (by decide +kernel) (by decide +kernel) (by decide +kernel) rfl rfl rfl
    (fun _ _ _ _ _ _ _ s x us hl => match us, hl with | [_], _ => .of_eq rfl) (fun x us hl => match us, hl with | [_], _ => ⟨by rfl, .cons (by rfl) (.nil)⟩) (.inl ⟨rfl, _, _, _, rfl⟩)
  have nn_EmptyStep : ∀ f ∈ (["name"] : List Str), PySem.W.findIn K (.ref C_EmptyStep) f = some none := fun f hf => by
      simp only [List.mem_cons, List.not_mem_nil, or_false] at hf
      rcases hf with rfl
      · exact no_name_EmptyStep
  have X_EmptyStep : ErrTxt P K mg false "EmptyStep" C_EmptyStep fI_EmptyStep ["name"] := err_mk (st := inClass (topS 11) 0) (fp := [("name", _, _, _, _)]) X G aC_EmptyStep z_super xL_EmptyStep bm_EmptyStep sa_EmptyStep ga_EmptyStep gg_EmptyStep nn_EmptyStep
    iC_EmptyStep tI_EmptyStep kC_EmptyStep ex_EmptyStep ve_EmptyStep ty_EmptyStep hd_EmptyStep sup_EmptyStep mro_EmptyStep su_EmptyStep ca_EmptyStep e_cg e_ct mo_EmptyStep e_opq top l_EmptyStep c_EmptyStep lc_EmptyStep v2_EmptyStep fl_EmptyStep cc_EmptyStep rfl rfl rfl rfl (by decide +kernel) (by decide +kernel) (by decide +kernel) (by decide +kernel) (by decide +kernel) (by decide +kernel) (by decide +kernel) rfl rfl rfl
    (fun _ _ _ _ _ _ _ s x us hl => match us, hl with | [_], _ => .of_eq rfl) (fun x us hl => match us, hl with | [_], _ => ⟨by rfl, .cons (by rfl) (.nil)⟩) (.inl ⟨rfl, _, _, _, rfl⟩)
  have nn_TooMany : ∀ f ∈ (["kind", "limit"] : List Str), PySem.W.findIn K (.ref C_TooMany) f = some none := fun f hf => by
      simp only [List.mem_cons, List.not_mem_nil, or_false] at hf
      rcases hf with rfl | rfl
      · exact no_kind_TooMany
      · exact no_limit_TooMany
  have X_TooMany : ErrTxt P K mg true "TooMany" C_TooMany fI_TooMany ["kind", "limit"] := err_mk (st := inClass (topS 12) 0) (fp := [("kind", _, _, _, _), ("limit", _, _, _, _)]) X G aC_TooMany z_super xL_TooMany bm_TooMany sa_TooMany ga_TooMany gg_TooMany nn_TooMany
    iC_TooMany tI_TooMany kC_TooMany ex_TooMany ve_TooMany ty_TooMany hd_TooMany sup_TooMany mro_TooMany su_TooMany ca_TooMany e_cg e_ct mo_TooMany e_opq top l_TooMany c_TooMany lc_TooMany v2_TooMany fl_TooMany cc_TooMany rfl rfl rfl rfl (by decide +kernel) (by decide +kernel) (by decide +kernel) (by decide +kernel) (by decide +kernel) (by decide +kernel) (by decide +kernel) rfl rfl rfl
    (fun _ _ _ _ _ _ _ s x us hl => match us, hl with | [_, _], _ => .of_eq rfl) (fun x us hl => match us, hl with | [_, _], _ => ⟨by rfl, .cons (by rfl) (.cons (by rfl) (.nil))⟩) (.inr ⟨rfl, _, _, _, _, _, _, rfl, by decide, rfl⟩)
  have FI_Plan : SrcI K C_Plan "Plan.__init__" s_Plan___init__ ["self", "places", "steps"] := srcI_mk mk_Plan kC_Plan a_Plan___init__ i_Plan___init__ l_Plan___init__ c_Plan___init__ k_Plan___init__ (fun _ _ _ _ _ _ us hl => match us, hl with | [_, _, _], _ => rfl)
  have FM_Plan_put_step : SrcM K C_Plan "put_step" "Plan.put_step" s_Plan_put_step ["self", "word", "takes", "gives"] := srcM_mk a_Plan_put_step i_Plan_put_step l_Plan_put_step c_Plan_put_step k_Plan_put_step (fun _ _ _ _ _ _ us hl => match us, hl with | [_, _, _, _], _ => rfl)
  have FM_Plan_takes : SrcM K C_Plan "takes" "Plan.takes" s_Plan_takes ["self", "step"] := srcM_mk a_Plan_takes i_Plan_takes l_Plan_takes c_Plan_takes k_Plan_takes (fun _ _ _ _ _ _ us hl => match us, hl with | [_, _], _ => rfl)
  have m_Plan := PySem.W.mg_of X G aC_Plan
  have CL_Plan : Cls K C_Plan := ⟨pg_Plan, hd_Plan, po_Plan, sa_Plan⟩
  refine ⟨PySem.W.fnOf "law" "law" (defArgs s_law) (defBody s_law) (defScope s_law) .none kV_law dc_law pm_law an_law cd_law ct_law, fun s v => .of_eq rfl, fun base hK hN => ?_⟩
  have T_Plan : PlanC K mg C_Plan := ⟨CL_Plan, m_Plan, no_places_Plan, no_begin_Plan, no_taken_Plan, no_given_Plan, no_steps_Plan⟩
  have P1 : Def P w K mg base CX0 1 "is_word" _ spIsWord := ok_is_word B g_LETTERS g_DIGITS g_MOST_SIGNS F_is_word
  have P2 : Def P w K mg base (L2.CX P w) 2 "check_word" _ (spCheckWord C_BadWord) := ok_check_word X_BadWord P1 F_check_word
  have P3 : Def P w K mg base (L2.CX P w) 1 "check_number" _ (spCheckNumber C_BadNumber) := ok_check_number X_BadNumber F_check_number
  have P4 : Def P w K mg base (L2.CX P w) 1 "check_names" _ (spCheckNames K C_UnknownName C_DoubleName) := ok_check_names B X_UnknownName X_DoubleName F_check_names
  have P5 : Def P w K mg base (L2.CX P w) 2 "in_order" _ (spInOrder K (⟨C_TooMany, C_BadWord, C_DoubleName, C_BadNumber, C_EmptyStep, C_UnknownName⟩ : ECs)) := ok_in_order B P4 F_in_order
  have P6 : DefM P w K mg base (L2.CX P w) 3 C_Plan "put_step" _ (spPut K (⟨C_TooMany, C_BadWord, C_DoubleName, C_BadNumber, C_EmptyStep, C_UnknownName⟩ : ECs) C_Plan) := ok_put_step (f_BadWord := fI_BadWord) B T_Plan X_DoubleName X_EmptyStep P2 P5 FM_Plan_put_step
  have DI_Plan : DefI P w K mg base (L2.CX P w) 4 C_Plan _ (spInit K (⟨C_TooMany, C_BadWord, C_DoubleName, C_BadNumber, C_EmptyStep, C_UnknownName⟩ : ECs) C_Plan) := ok_plan_init B T_Plan g_MOST_PLACES g_MOST_STEPS g_MOST_BEGIN X_TooMany X_DoubleName (P2.mono (by decide)) (P3.mono (by decide)) P6 FI_Plan
  have D1 : Def P w K mg base CX0 1 "_law_next" _ spNext := ok_next B F__law_next
  have D2 : Def P w K mg base CX0 1 "_law_box" _ (spBox K) := ok_box B F__law_box
  have D3 : Def P w K mg base CX0 2 "_law_word" _ spWord := ok_word B D1 F__law_word
  have D4 : Def P w K mg base CX0 3 "_law_words" _ spWords := ok_words B D3 F__law_words
  have D5 : Def P w K mg base CX0 2 "_law_pick" _ spPick := ok_pick B D1 F__law_pick
  have D6 : Def P w K mg base CX0 4 "_law_any" _ spGRows := ok_any B (D1.mono (by decide)) D4 (D5.mono (by decide)) F__law_any
  have D7 : Def P w K mg base CX0 4 "_law_free" _ spGRows := ok_free B (D1.mono (by decide)) D4 (D5.mono (by decide)) F__law_free
  have D8 : Def P w K mg base CX0 1 "_law_stretched" _ spStretched := ok_stretched B F__law_stretched
  have D9 : Def P w K mg base CX0 1 "_law_twinned" _ spTwinned := ok_twinned B F__law_twinned
  have D10 : Def P w K mg base CX0 2 "_law_detoured" _ spDetoured := ok_detoured B D9 F__law_detoured
  have D11 : Def P w K mg base CX0 2 "_law_ring" _ spRing := ok_ring B D1 F__law_ring
  have D12 : Def P w K mg base CX0 4 "_law_grown" _ spGRows := ok_grown B (D1.mono (by decide)) D4 (D11.mono (by decide)) (D8.mono (by decide)) (D9.mono (by decide)) (D10.mono (by decide)) F__law_grown
  have D13 : Def P w K mg base CX0 5 "_law_rows" _ spGRows := ok_lrows B (D1.mono (by decide)) D6 D7 D12 F__law_rows
  have D14 : Def P w K mg base CX0 1 "_law_groups" _ spGroups := ok_groups B F__law_groups
  have E1 : DefM P w K mg base (L2.CX P w) 1 C_Plan "takes" _ (spTakes (⟨C_TooMany, C_BadWord, C_DoubleName, C_BadNumber, C_EmptyStep, C_UnknownName⟩ : ECs) C_Plan) := ok_takes (f_UnknownName := fI_UnknownName) B T_Plan X_UnknownName FM_Plan_takes
  have E2 : Def P w K mg base CX0 2 "choices" _ (spChoices C_Plan) := ok_choices B T_Plan E1 F_choices
  have E3 : Def P w K mg base (L2.CX P w) 2 "choice_of" _ (spChoiceOf (⟨C_TooMany, C_BadWord, C_DoubleName, C_BadNumber, C_EmptyStep, C_UnknownName⟩ : ECs) C_Plan) := ok_choice_of B T_Plan E1 F_choice_of
  have E4 : Def P w K mg base (L2.CX P w) 2 "choice_places" _ (spTakes (⟨C_TooMany, C_BadWord, C_DoubleName, C_BadNumber, C_EmptyStep, C_UnknownName⟩ : ECs) C_Plan) := ok_choice_places B T_Plan E1 F_choice_places
  have E5 : Def P w K mg base CX0 3 "_law_refused" _ (spRefused C_Plan) := ok_refused (f_UnknownName := fI_UnknownName) B T_Plan X_UnknownName E3 E4 F__law_refused
  exact ok_law (k := 4) B T_Plan m_Plan (D2.mono (by decide)) (D1.mono (by decide)) D13 (D14.mono (by decide)) (E2.mono (by decide)) (E3.mono (by decide)) (E4.mono (by decide)) (E5.mono (by decide)) DI_Plan (fun_mk l_law c_law k_law)
theorem walk {l : PySem.W.OpenLaw} {q : Program} {loose : List Str} {XP : (Str → Option Value) → Heap → Prop} {YP : World → Heap → Prop} {d : DefRec} {K : Params → PySem.W.Frag} (hn : l.most = some 63) (hdf : d.params.defaults = [])
    (hY : ∀ (w : World) (h : Heap), YP w h → (K w.params).In h)
    (F : ∀ (w : World) (mg : Str → Option Value) (fa : Addr) (h : Heap), (K w.params).In h → h.Ns mainGlobals mg → mg d.name = some (.ref fa) →
      ∃ fd : FuncData, (∀ (s : Shared) (u : Value), BindsTo s fd ⟨[u], []⟩ [("_law_script", u)]) ∧ ∀ base : Heap, (K w.params).In base → base.Ns mainGlobals mg → FnOk l.prog w (K w.params) mg base CX0 6 fa fd ["_law_script"] (spLaw (K w.params))) :
    PySem.W.WalkO q loose XP YP l.row.toRowW d [] (fun f vs => PySem.call f vs) :=
  L2.walk_of (n := 63) (k := 6) (x := "_law_script") (CX := fun _ => CX0) (sp := fun w => spLaw (K w.params)) hn (by decide) hdf ⟨rfl, by decide, by decide⟩ hY F (fun _ _ a ns hl _ hS => ⟨a, ns, rfl, hS, hl, fun _ => rfl⟩) fun _ _ _ _ _ z => z
end Held

open PySem PySem.W PyProof.Rows in
set_option maxRecDepth 100000 in
set_option maxHeartbeats 0 in
theorem PySem.Challenge.cw_heldsteps_k13_whole_choices_holds : PySem.Challenge.rw_heldsteps_k13_whole_choices.Holds := by
  w_on; o_law; k_head; (case hw => w_witness2)
  k_fill
  refine Held.walk (l := PySem.Challenge.rw_heldsteps_k13_whole_choices) rfl rfl (fun w h Y => PySem.W.kIn_of Y) ?F
  case F =>
    intro w mg fa h KX G hmg
    refine' Held.all_mk KX G hmg (by decide +kernel) ?z_len ?z_range ?z_abs ?z_sum ?z_sorted ?z_isinstance ?z_zip ?z_enumerate ?z_reversed ?z_int ?z_str ?z_list ?z_tuple ?z_bool ?z_all ?z_any ?z_ValueError ?z_super ?a_LETTERS ?a_DIGITS ?a_MOST_SIGNS ?a_MOST_PLACES ?a_MOST_STEPS ?a_MOST_BEGIN ?a_is_word ?l_is_word ?c_is_word ?k_is_word ?a_check_word ?l_check_word ?c_check_word ?k_check_word ?a_check_number ?l_check_number ?c_check_number ?k_check_number ?a_check_names ?l_check_names ?c_check_names ?k_check_names ?a_in_order ?l_in_order ?c_in_order ?k_in_order ?a__law_box ?l__law_box ?c__law_box ?k__law_box ?a__law_next ?l__law_next ?c__law_next ?k__law_next ?a__law_word ?l__law_word ?c__law_word ?k__law_word ?a__law_words ?l__law_words ?c__law_words ?k__law_words ?a__law_pick ?l__law_pick ?c__law_pick ?k__law_pick ?a__law_any ?l__law_any ?c__law_any ?k__law_any ?a__law_free ?l__law_free ?c__law_free ?k__law_free ?a__law_stretched ?l__law_stretched ?c__law_stretched ?k__law_stretched ?a__law_twinned ?l__law_twinned ?c__law_twinned ?k__law_twinned ?a__law_detoured ?l__law_detoured ?c__law_detoured ?k__law_detoured ?a__law_ring ?l__law_ring ?c__law_ring ?k__law_ring ?a__law_grown ?l__law_grown ?c__law_grown ?k__law_grown ?a__law_rows ?l__law_rows ?c__law_rows ?k__law_rows ?a__law_groups ?l__law_groups ?c__law_groups ?k__law_groups ?a__law_refused ?l__law_refused ?c__law_refused ?k__law_refused ?a_choices ?l_choices ?c_choices ?k_choices ?a_choice_of ?l_choice_of ?c_choice_of ?k_choice_of ?a_choice_places ?l_choice_places ?c_choice_places ?k_choice_places ?a_law ?l_law ?c_law ?k_law ?e_opq ?e_cg ?e_ct ?aC_BadWord ?xL_BadWord ?bm_BadWord ?sa_BadWord ?ga_BadWord ?gg_BadWord ?no_word_BadWord ?iC_BadWord ?tI_BadWord ?kC_BadWord ?ex_BadWord ?ve_BadWord ?ty_BadWord ?hd_BadWord ?sup_BadWord ?mro_BadWord ?su_BadWord ?ca_BadWord ?mo_BadWord ?l_BadWord ?c_BadWord ?lc_BadWord ?v2_BadWord ?fl_BadWord ?cc_BadWord ?aC_BadNumber ?xL_BadNumber ?bm_BadNumber ?sa_BadNumber ?ga_BadNumber ?gg_BadNumber ?no_number_BadNumber ?iC_BadNumber ?tI_BadNumber ?kC_BadNumber ?ex_BadNumber ?ve_BadNumber ?ty_BadNumber ?hd_BadNumber ?sup_BadNumber ?mro_BadNumber ?su_BadNumber ?ca_BadNumber ?mo_BadNumber ?l_BadNumber ?c_BadNumber ?lc_BadNumber ?v2_BadNumber ?fl_BadNumber ?cc_BadNumber ?aC_UnknownName ?xL_UnknownName ?bm_UnknownName ?sa_UnknownName ?ga_UnknownName ?gg_UnknownName ?no_name_UnknownName ?iC_UnknownName ?tI_UnknownName ?kC_UnknownName ?ex_UnknownName ?ve_UnknownName ?ty_UnknownName ?hd_UnknownName ?sup_UnknownName ?mro_UnknownName ?su_UnknownName ?ca_UnknownName ?mo_UnknownName ?l_UnknownName ?c_UnknownName ?lc_UnknownName ?v2_UnknownName ?fl_UnknownName ?cc_UnknownName ?aC_DoubleName ?xL_DoubleName ?bm_DoubleName ?sa_DoubleName ?ga_DoubleName ?gg_DoubleName ?no_name_DoubleName ?iC_DoubleName ?tI_DoubleName ?kC_DoubleName ?ex_DoubleName ?ve_DoubleName ?ty_DoubleName ?hd_DoubleName ?sup_DoubleName ?mro_DoubleName ?su_DoubleName ?ca_DoubleName ?mo_DoubleName ?l_DoubleName ?c_DoubleName ?lc_DoubleName ?v2_DoubleName ?fl_DoubleName ?cc_DoubleName ?aC_EmptyStep ?xL_EmptyStep ?bm_EmptyStep ?sa_EmptyStep ?ga_EmptyStep ?gg_EmptyStep ?no_name_EmptyStep ?iC_EmptyStep ?tI_EmptyStep ?kC_EmptyStep ?ex_EmptyStep ?ve_EmptyStep ?ty_EmptyStep ?hd_EmptyStep ?sup_EmptyStep ?mro_EmptyStep ?su_EmptyStep ?ca_EmptyStep ?mo_EmptyStep ?l_EmptyStep ?c_EmptyStep ?lc_EmptyStep ?v2_EmptyStep ?fl_EmptyStep ?cc_EmptyStep ?aC_TooMany ?xL_TooMany ?bm_TooMany ?sa_TooMany ?ga_TooMany ?gg_TooMany ?no_kind_TooMany ?no_limit_TooMany ?iC_TooMany ?tI_TooMany ?kC_TooMany ?ex_TooMany ?ve_TooMany ?ty_TooMany ?hd_TooMany ?sup_TooMany ?mro_TooMany ?su_TooMany ?ca_TooMany ?mo_TooMany ?l_TooMany ?c_TooMany ?lc_TooMany ?v2_TooMany ?fl_TooMany ?cc_TooMany ?aC_Plan ?pg_Plan ?hd_Plan ?po_Plan ?sa_Plan ?no_places_Plan ?no_begin_Plan ?no_taken_Plan ?no_given_Plan ?no_steps_Plan ?mk_Plan ?kC_Plan ?a_Plan___init__ ?i_Plan___init__ ?l_Plan___init__ ?c_Plan___init__ ?k_Plan___init__ ?a_Plan_put_step ?i_Plan_put_step ?l_Plan_put_step ?c_Plan_put_step ?k_Plan_put_step ?a_Plan_takes ?i_Plan_takes ?l_Plan_takes ?c_Plan_takes ?k_Plan_takes
    (case z_len => k_is)
    (case z_range => k_is)
    (case z_abs => k_is)
    (case z_sum => k_is)
    (case z_sorted => k_is)
    (case z_isinstance => k_is)
    (case z_zip => k_is)
    (case z_enumerate => k_is)
    (case z_reversed => k_is)
    (case z_int => k_is)
    (case z_str => k_is)
    (case z_list => k_is)
    (case z_tuple => k_is)
    (case z_bool => k_is)
    (case z_all => k_is)
    (case z_any => k_is)
    (case z_ValueError => k_is)
    (case z_super => k_is)
    (case a_LETTERS => k_is)
    (case a_DIGITS => k_is)
    (case a_MOST_SIGNS => k_is)
    (case a_MOST_PLACES => k_is)
    (case a_MOST_STEPS => k_is)
    (case a_MOST_BEGIN => k_is)
    (case a_is_word => k_is)
    (case l_is_word => k_is)
    (case c_is_word => k_is)
    (case k_is_word => k_is)
    (case a_check_word => k_is)
    (case l_check_word => k_is)
    (case c_check_word => k_is)
    (case k_check_word => k_is)
    (case a_check_number => k_is)
    (case l_check_number => k_is)
    (case c_check_number => k_is)
    (case k_check_number => k_is)
    (case a_check_names => k_is)
    (case l_check_names => k_is)
    (case c_check_names => k_is)
    (case k_check_names => k_is)
    (case a_in_order => k_is)
    (case l_in_order => k_is)
    (case c_in_order => k_is)
    (case k_in_order => k_is)
    (case a__law_box => k_is)
    (case l__law_box => k_is)
    (case c__law_box => k_is)
    (case k__law_box => k_is)
    (case a__law_next => k_is)
    (case l__law_next => k_is)
    (case c__law_next => k_is)
    (case k__law_next => k_is)
    (case a__law_word => k_is)
    (case l__law_word => k_is)
    (case c__law_word => k_is)
    (case k__law_word => k_is)
    (case a__law_words => k_is)
    (case l__law_words => k_is)
    (case c__law_words => k_is)
    (case k__law_words => k_is)
    (case a__law_pick => k_is)
    (case l__law_pick => k_is)
    (case c__law_pick => k_is)
    (case k__law_pick => k_is)
    (case a__law_any => k_is)
    (case l__law_any => k_is)
    (case c__law_any => k_is)
    (case k__law_any => k_is)
    (case a__law_free => k_is)
    (case l__law_free => k_is)
    (case c__law_free => k_is)
    (case k__law_free => k_is)
    (case a__law_stretched => k_is)
    (case l__law_stretched => k_is)
    (case c__law_stretched => k_is)
    (case k__law_stretched => k_is)
    (case a__law_twinned => k_is)
    (case l__law_twinned => k_is)
    (case c__law_twinned => k_is)
    (case k__law_twinned => k_is)
    (case a__law_detoured => k_is)
    (case l__law_detoured => k_is)
    (case c__law_detoured => k_is)
    (case k__law_detoured => k_is)
    (case a__law_ring => k_is)
    (case l__law_ring => k_is)
    (case c__law_ring => k_is)
    (case k__law_ring => k_is)
    (case a__law_grown => k_is)
    (case l__law_grown => k_is)
    (case c__law_grown => k_is)
    (case k__law_grown => k_is)
    (case a__law_rows => k_is)
    (case l__law_rows => k_is)
    (case c__law_rows => k_is)
    (case k__law_rows => k_is)
    (case a__law_groups => k_is)
    (case l__law_groups => k_is)
    (case c__law_groups => k_is)
    (case k__law_groups => k_is)
    (case a__law_refused => k_is)
    (case l__law_refused => k_is)
    (case c__law_refused => k_is)
    (case k__law_refused => k_is)
    (case a_choices => k_is)
    (case l_choices => k_is)
    (case c_choices => k_is)
    (case k_choices => k_is)
    (case a_choice_of => k_is)
    (case l_choice_of => k_is)
    (case c_choice_of => k_is)
    (case k_choice_of => k_is)
    (case a_choice_places => k_is)
    (case l_choice_places => k_is)
    (case c_choice_places => k_is)
    (case k_choice_places => k_is)
    (case a_law => k_is)
    (case l_law => k_is)
    (case c_law => k_is)
    (case k_law => k_is)
    (case e_opq => k_is)
    (case e_cg => k_is)
    (case e_ct => k_is)
    (case aC_BadWord => k_is)
    (case xL_BadWord => k_is)
    (case bm_BadWord => rfl)
    (case sa_BadWord => k_is)
    (case ga_BadWord => k_is)
    (case gg_BadWord => k_is)
    (case no_word_BadWord => k_is)
    (case iC_BadWord => k_is)
    (case tI_BadWord => k_is)
    (case kC_BadWord => k_is)
    (case ex_BadWord => k_is)
    (case ve_BadWord => k_is)
    (case ty_BadWord => k_is)
    (case hd_BadWord => k_is)
    (case sup_BadWord => ks_is)
    (case mro_BadWord => k_is)
    (case su_BadWord => first | rfl | k_is)
    (case ca_BadWord => k_is)
    (case mo_BadWord => k_is)
    (case l_BadWord => k_is)
    (case c_BadWord => k_is)
    (case lc_BadWord => k_is)
    (case v2_BadWord => rfl)
    (case fl_BadWord => first | rfl | decide +kernel)
    (case cc_BadWord => k_is)
    (case aC_BadNumber => k_is)
    (case xL_BadNumber => k_is)
    (case bm_BadNumber => rfl)
    (case sa_BadNumber => k_is)
    (case ga_BadNumber => k_is)
    (case gg_BadNumber => k_is)
    (case no_number_BadNumber => k_is)
    (case iC_BadNumber => k_is)
    (case tI_BadNumber => k_is)
    (case kC_BadNumber => k_is)
    (case ex_BadNumber => k_is)
    (case ve_BadNumber => k_is)
    (case ty_BadNumber => k_is)
    (case hd_BadNumber => k_is)
    (case sup_BadNumber => ks_is)
    (case mro_BadNumber => k_is)
    (case su_BadNumber => first | rfl | k_is)
    (case ca_BadNumber => k_is)
    (case mo_BadNumber => k_is)
    (case l_BadNumber => k_is)
    (case c_BadNumber => k_is)
    (case lc_BadNumber => k_is)
    (case v2_BadNumber => rfl)
    (case fl_BadNumber => first | rfl | decide +kernel)
    (case cc_BadNumber => k_is)
    (case aC_UnknownName => k_is)
    (case xL_UnknownName => k_is)
    (case bm_UnknownName => rfl)
    (case sa_UnknownName => k_is)
    (case ga_UnknownName => k_is)
    (case gg_UnknownName => k_is)
    (case no_name_UnknownName => k_is)
    (case iC_UnknownName => k_is)
    (case tI_UnknownName => k_is)
    (case kC_UnknownName => k_is)
    (case ex_UnknownName => k_is)
    (case ve_UnknownName => k_is)
    (case ty_UnknownName => k_is)
    (case hd_UnknownName => k_is)
    (case sup_UnknownName => ks_is)
    (case mro_UnknownName => k_is)
    (case su_UnknownName => first | rfl | k_is)
    (case ca_UnknownName => k_is)
    (case mo_UnknownName => k_is)
    (case l_UnknownName => k_is)
    (case c_UnknownName => k_is)
    (case lc_UnknownName => k_is)
    (case v2_UnknownName => rfl)
    (case fl_UnknownName => first | rfl | decide +kernel)
    (case cc_UnknownName => k_is)
    (case aC_DoubleName => k_is)
    (case xL_DoubleName => k_is)
    (case bm_DoubleName => rfl)
    (case sa_DoubleName => k_is)
    (case ga_DoubleName => k_is)
    (case gg_DoubleName => k_is)
    (case no_name_DoubleName => k_is)
    (case iC_DoubleName => k_is)
    (case tI_DoubleName => k_is)
    (case kC_DoubleName => k_is)
    (case ex_DoubleName => k_is)
    (case ve_DoubleName => k_is)
    (case ty_DoubleName => k_is)
    (case hd_DoubleName => k_is)
    (case sup_DoubleName => ks_is)
    (case mro_DoubleName => k_is)
    (case su_DoubleName => first | rfl | k_is)
    (case ca_DoubleName => k_is)
    (case mo_DoubleName => k_is)
    (case l_DoubleName => k_is)
    (case c_DoubleName => k_is)
    (case lc_DoubleName => k_is)
    (case v2_DoubleName => rfl)
    (case fl_DoubleName => first | rfl | decide +kernel)
    (case cc_DoubleName => k_is)
    (case aC_EmptyStep => k_is)
    (case xL_EmptyStep => k_is)
    (case bm_EmptyStep => rfl)
    (case sa_EmptyStep => k_is)
    (case ga_EmptyStep => k_is)
    (case gg_EmptyStep => k_is)
    (case no_name_EmptyStep => k_is)
    (case iC_EmptyStep => k_is)
    (case tI_EmptyStep => k_is)
    (case kC_EmptyStep => k_is)
    (case ex_EmptyStep => k_is)
    (case ve_EmptyStep => k_is)
    (case ty_EmptyStep => k_is)
    (case hd_EmptyStep => k_is)
    (case sup_EmptyStep => ks_is)
    (case mro_EmptyStep => k_is)
    (case su_EmptyStep => first | rfl | k_is)
    (case ca_EmptyStep => k_is)
    (case mo_EmptyStep => k_is)
    (case l_EmptyStep => k_is)
    (case c_EmptyStep => k_is)
    (case lc_EmptyStep => k_is)
    (case v2_EmptyStep => rfl)
    (case fl_EmptyStep => first | rfl | decide +kernel)
    (case cc_EmptyStep => k_is)
    (case aC_TooMany => k_is)
    (case xL_TooMany => k_is)
    (case bm_TooMany => rfl)
    (case sa_TooMany => k_is)
    (case ga_TooMany => k_is)
    (case gg_TooMany => k_is)
    (case no_kind_TooMany => k_is)
    (case no_limit_TooMany => k_is)
    (case iC_TooMany => k_is)
    (case tI_TooMany => k_is)
    (case kC_TooMany => k_is)
    (case ex_TooMany => k_is)
    (case ve_TooMany => k_is)
    (case ty_TooMany => k_is)
    (case hd_TooMany => k_is)
    (case sup_TooMany => ks_is)
    (case mro_TooMany => k_is)
    (case su_TooMany => first | rfl | k_is)
    (case ca_TooMany => k_is)
    (case mo_TooMany => k_is)
    (case l_TooMany => k_is)
    (case c_TooMany => k_is)
    (case lc_TooMany => k_is)
    (case v2_TooMany => rfl)
    (case fl_TooMany => first | rfl | decide +kernel)
    (case cc_TooMany => k_is)
    (case aC_Plan => k_is)
    (case pg_Plan => k_is)
    (case hd_Plan => k_is)
    (case po_Plan => k_is)
    (case sa_Plan => k_is)
    (case no_places_Plan => k_is)
    (case no_begin_Plan => k_is)
    (case no_taken_Plan => k_is)
    (case no_given_Plan => k_is)
    (case no_steps_Plan => k_is)
    (case mk_Plan => k_is)
    (case kC_Plan => k_is)
    (case a_Plan___init__ => k_is)
    (case i_Plan___init__ => k_is)
    (case l_Plan___init__ => k_is)
    (case c_Plan___init__ => k_is)
    (case k_Plan___init__ => k_is)
    (case a_Plan_put_step => k_is)
    (case i_Plan_put_step => k_is)
    (case l_Plan_put_step => k_is)
    (case c_Plan_put_step => k_is)
    (case k_Plan_put_step => k_is)
    (case a_Plan_takes => k_is)
    (case i_Plan_takes => k_is)
    (case l_Plan_takes => k_is)
    (case c_Plan_takes => k_is)
    (case k_Plan_takes => k_is)
#print axioms PySem.Challenge.cw_heldsteps_k13_whole_choices_holds