import PyProof.Rows.All
import Wide.All
import OpenK.AllK
import Wide.FinOn
import PyProof.EqAt
import PyProof.EqKinds
import PyProof.TupleCall
import KE.KExcSuper
import KE.KExcIs
import HandS.ForMost
import HandS.ForExc
import HandS.ExcInit
import HandS.ExcField
import HandS.ExcIs
import HandS.TryMany
import HandS.Walk
import HandS.Wide
import HandS.EndBits
import HandS.Flow
import HandS.Codes
import HandS.IsInst
import HandS.More
import HandS.Conv
import HandS.DictTup
import KE.KDictWalk
import HandS.Style
import HandS.Text
import HandS.Steps
import HandS.CallLocal
import HandS.TupLe
import HandS.TupAny
import HandS.Zip
import HandS.FStr
import HandS.Star
import HandS.DictComp
import PyProof.EqLayable
import PySem.Challenge.RW_heldsteps_k61_plan_texts
set_option Elab.async false
set_option linter.all false
set_option maxRecDepth 100000
set_option maxHeartbeats 4000000
/-! An error class of the package: a class over a class over ValueError, whose __init__ says super().__init__(text) and then stores its arguments. -/
namespace PySem
namespace HErr
open PySem.W PySem.Calls PyProof.Rows PySem.HandSPX
abbrev FP := Str × Pos × Pos × Pos × Pos
def stF (q : FP) : Stmt := .Assign [.Attribute (.Name "self" q.2.1) q.1 q.2.2.1] (.Name q.1 q.2.2.2.1) q.2.2.2.2
def stS (msg : Expr) (p1 p2 p3 p4 p5 : Pos) : Stmt := .Expr (.Call (.Attribute (.Call (.Name "super" p1) [] [] p2) "__init__" p3) [msg] [] p4) p5
section
variable {prog : Program} {w : World} {A : Around} {E : Value → Shared → Prop} {s : Shared} {K : Frag} {C : Addr}
/-- what is known of the class for its stores -/
structure ClsK (K : Frag) (C : Addr) (fs : List Str) : Prop where
  cls : ∃ nm q N bs bm sn sub ab col dd k0 k1 k2 k3 k5, K.lookup C = some (excClassObj nm q C N bs bm true sn sub ab col dd k0 k1 k2 k3 k5 "ValueError.__new__") ∧ refsVE bm = true
  sa : findIn K (.ref C) "__setattr__" = some (some (.builtin "object.__setattr__"))
  noN : ∀ f ∈ fs, findIn K (.ref C) f = some none
theorem ClsK.data {fs : List Str} (T : ClsK K C fs) : ∃ cd, clsIn K C = some cd ∧ refsVE cd.mro = true ∧ cd.hasDict = true := by
  obtain ⟨nm, q, N, bs, bm, sn, sub, ab, col, dd, k0, k1, k2, k3, k5, hC, hbm⟩ := T.cls
  exact ⟨{ name := nm, bases := bs, mro := .ref C :: bm, ns := N, qualname := q, hasDict := true, slotNames := sn, subclasses := sub, abstract := ab, collection := col, hasDel := false }, by unfold clsIn; rw [hC] <;> rfl, hbm, rfl⟩
theorem ld {M : Model} {env : Env} {m : Str → Option Value} {x : Str} {pos : Pos} {v : Value} {Q : Value → Shared → Prop} (hn : s.heap.Ns env.locals m) (hv : m x = some v) (h : Q v s)
    (hk : env.scope.kind = .function) (hl : env.kindOf x = some .local) (hd : (x == ("__debug__" : Str)) = false) :
    wpAny M A (eval (.Name x pos) env) Q E s := wpAny_Name (wpAny_loadName_local hk hl hn hv h) hd
theorem swaps_attr (env : Env) (q : FP) : swapsWith (.Name q.1 q.2.2.2.1) (some (.Attribute (.Name "self" q.2.1) q.1 q.2.2.1)) q.2.2.2.2.line env = pure false := rfl
/-- the stores behind the first -/
theorem stores_old {names : List Str} (T : ClsK K C names) {env : Env} (hk : env.scope.kind = .function) (hself : env.kindOf "self" = some .local) {m : Str → Option Value} {x dx t0 : Addr} (hmx : m "self" = some (.ref x)) :
    ∀ (fs : List FP) (us : List Value) (vs : List L2.V) (hv : L2.Vals vs us) (hfn : ∀ q ∈ fs, q.1 ∈ names ∧ env.kindOf q.1 = some .local ∧ (q.1 == ("__debug__" : Str)) = false) (hm : Paired (fun (q : FP) u => m q.1 = some u) fs us) (fV : List (Str × L2.V)) (mA : Str → Option Value) (s : Shared) (Q : Flow → Shared → Prop),
      K.In s.heap → s.heap.Ns env.locals m → env.locals ≠ dx → K.lookup dx = none →
      s.heap.get? x = some { cls := .ref C, dict := some dx, data := .fields #[.ref t0, .none, .none, .none, .bool false, .none] } → s.heap.Ns1 dx mA → (∀ f, L2.RelO (fV.lookup f) (mA f)) → fV.length + fs.length ≤ 900 →
      (∀ h' tk mB, (∀ b o, b ≠ dx → s.heap.get? b = some o → h'.get? b = some o) → h'.Ns1 dx mB → (∀ f, L2.RelO ((((fs.map (·.1)).zip vs).reverse ++ fV).lookup f) (mB f)) → Q .next { s with heap := h', toks := tk }) →
      wpAny (model prog w) A (execs (fs.map stF) env) Q E s
  | [], us, vs, hv, hfn, hm, fV, mA, s, Q, X, hn, hL, hKd, hx, hns, hr, hl, hq => by
    refine wpAny_execs_nil ?_
    have := hq s.heap s.toks mA (fun _ _ _ e => e) hns (by simpa using hr)
    exact this
  | q :: fs, us, vs, hv, hfn, hm, fV, mA, s, Q, X, hn, hL, hKd, hx, hns, hr, hl, hq => by
    cases hm with
    | cons hu hm' =>
      rename_i u us'
      cases hv with
      | cons ru hv' =>
        rename_i v vs'
        obtain ⟨hmem, hloc, hdb⟩ := hfn q (List.mem_cons_self ..)
        obtain ⟨cd, hcd, hmro, hhd⟩ := T.data
        have hw := L2.within_of hr
        obtain ⟨hp, g, d, tk, os⟩ := s
        obtain ⟨oD, _, _, hoD, _, _⟩ := hns.count hw
        show wpAny _ _ (execs (stF q :: fs.map stF) env) _ _ _
        refine wpAny_execs_cons (plainObj_wpAny_Assign_Attribute ?_ (swaps_attr env q))
        refine ld hn hu (ld hn hmx ?_ hk hself (by decide)) hk hloc hdb
        refine set_plain X (ox := { cls := .ref C, dict := some dx, data := .fields #[.ref t0, .none, .none, .none, .bool false, .none] }) (od := some oD) ⟨hx, rfl, rfl, hoD⟩ T.sa ?_
        refine PySem.OEX.osa_old X hx hns hw (by rw [List.length_map]; omega) hcd hmro hhd (T.noN _ hmem) (fun h' tk' k hn' => ?_)
        have hxd : x ≠ dx := fun z => by
          obtain ⟨o, es, ep, e1, e2, _⟩ := hns
          rw [← z, hx] at e1
          cases e1
          cases e2
        refine stores_old T hk hself hmx fs us' vs' hv' (fun q' hq' => hfn q' (List.mem_cons_of_mem _ hq')) hm' ((q.1, v) :: fV) _ ⟨h', g, d, tk', os⟩ Q
          (fun a o e => k a o (fun z => by rw [z, hKd] at e; cases e) (X a o e)) ?_ hL hKd (k _ _ hxd hx) hn' (L2.relO_put ru hr) (by simp only [List.length_cons] at hl ⊢; omega) (fun h2 tk2 mB k2 hn2 r2 => ?_)
        · obtain ⟨o, es, ep, e1, e2⟩ := hn
          exact ⟨o, es, ep, k _ _ hL e1, e2⟩
        · refine hq h2 tk2 mB (fun b o hb e => k2 b o hb (k b o hb e)) hn2 fun f => ?_
          have := r2 f
          simpa using this
/-- all stores: from an exception without a dict -/
theorem stores_new {names : List Str} (T : ClsK K C names) {env : Env} (hk : env.scope.kind = .function) (hself : env.kindOf "self" = some .local) {m : Str → Option Value} {x t0 : Addr} (hmx : m "self" = some (.ref x))
    (q : FP) (fs : List FP) (us : List Value) (vs : List L2.V) (hv : L2.Vals vs us) (hfn : ∀ q' ∈ q :: fs, q'.1 ∈ names ∧ env.kindOf q'.1 = some .local ∧ (q'.1 == ("__debug__" : Str)) = false) (hm : Paired (fun (q : FP) u => m q.1 = some u) (q :: fs) us) (s : Shared) (Q : Flow → Shared → Prop)
    (X : K.In s.heap) (hn : s.heap.Ns env.locals m) (hLx : env.locals ≠ x) (hKx : K.lookup x = none)
    (hx : s.heap.get? x = some { cls := .ref C, data := .fields #[.ref t0, .none, .none, .none, .bool false, .none] }) (hl : fs.length ≤ 800)
    (hq : ∀ h' tk dx mB, (∀ b o, b ≠ x → s.heap.get? b = some o → h'.get? b = some o) → s.heap.objs.size ≤ dx → dx ≠ x → h'.get? x = some { cls := .ref C, dict := some dx, data := .fields #[.ref t0, .none, .none, .none, .bool false, .none] } →
      h'.Ns1 dx mB → (∀ f, L2.RelO (((((q :: fs).map (·.1)).zip vs).reverse).lookup f) (mB f)) → Q .next { s with heap := h', toks := tk }) :
    wpAny (model prog w) A (execs ((q :: fs).map stF) env) Q E s := by
  cases hm with
  | cons hu hm' =>
    rename_i u us'
    cases hv with
    | cons ru hv' =>
      rename_i v vs'
      obtain ⟨hmem, hloc, hdb⟩ := hfn q (List.mem_cons_self ..)
      obtain ⟨cd, hcd, hmro, hhd⟩ := T.data
      obtain ⟨hp, g, d, tk, os⟩ := s
      show wpAny _ _ (execs (stF q :: fs.map stF) env) _ _ _
      refine wpAny_execs_cons (plainObj_wpAny_Assign_Attribute ?_ (swaps_attr env q))
      refine ld hn hu (ld hn hmx ?_ hk hself (by decide)) hk hloc hdb
      refine set_plain X (ox := { cls := .ref C, dict := none, data := .fields #[.ref t0, .none, .none, .none, .bool false, .none] }) (od := none) ⟨hx, rfl, rfl, trivial⟩ T.sa ?_
      refine exc_osa X hx hcd hmro hhd (T.noN _ hmem) (fun h' tk' dx k dn dne hx' hn' => ?_)
      have hbig : ∀ {b : Addr} {o : Obj}, hp.get? b = some o → b ≠ dx := fun {b o} e => Nat.ne_of_lt (Nat.lt_of_lt_of_le (Heap.lt_size e) dn)
      have hKd : K.lookup dx = none := by
        cases e : K.lookup dx with
        | none => rfl
        | some o => exact absurd rfl (hbig (X _ _ e))
      have hLd : env.locals ≠ dx := by
        obtain ⟨o, es, ep, e1, e2⟩ := hn
        exact hbig e1
      refine stores_old T hk hself hmx fs us' vs' hv' (fun q' hq' => hfn q' (List.mem_cons_of_mem _ hq')) hm' [(q.1, v)] _ ⟨h', g, d, tk', os⟩ Q
        (fun a o e => k a o (fun z => by rw [z, hKx] at e; cases e) (X a o e)) ?_ hLd hKd hx' hn' (L2.relO_put (fs := []) ru fun _ => True.intro) (by simp only [List.length_cons, List.length_nil] at hl ⊢; omega) (fun h2 tk2 mB k2 hn2 r2 => ?_)
      · obtain ⟨o, es, ep, e1, e2⟩ := hn
        exact ⟨o, es, ep, k _ _ hLx e1, e2⟩
      · refine hq h2 tk2 dx mB (fun b o hb e => k2 b o (hbig e) (k b o hb e)) dn dne (k2 _ _ (Ne.symm dne) hx') hn2 fun f => ?_
        have := r2 f
        simpa using this
/-- what the written part says of the class at C and of its __init__, at fI: its name is cn, its fields fs -/
structure ErrTxt (P : Program) (K : Frag) (mg : Str → Option Value) (tm : Bool) (cn : Str) (C fI : Addr) (fs : List Str) : Prop extends ClsK K C fs where
  gC : mg cn = some (.ref C)
  ga : findIn K (.ref C) "__getattribute__" = some (some (.builtin "BaseException.__getattribute__"))
  gg : findIn K (.ref C) "__getattr__" = some none
  iC : findIn K (.ref C) "__init__" = some (some (.ref fI))
  tC : typeIn K (.ref fI) = some (.type "function")
  kC : keepIn K (.ref C) = true
  exC : subIn K (.ref C) (.type "BaseException") = some true
  veC : subIn K (.ref C) (.type "ValueError") = some true
  tyC : typeIn K (.ref C) = some (.type "type")
  hdC : hasDictIn K C = true
  sup : ks_superIn K C C "__init__" = some (some (.builtin "ValueError.__init__"))
  mro : mroIn K C (.ref C) = some true
  sub : subIn K (.ref C) (.ref C) = some true
  ca : findIn K (.ref C) "__class__" = some (some (.builtin "object.__class__"))
  cg : specialIn K (.builtin "object.__class__") "__get__" = some (some (.builtin "getset_descriptor.__get__"))
  ct : takesIn K (.builtin "object.__class__") = some true
  mo : mroIn K C (.type "object") = some true
  opq : nsIn K cStatics "thirdparty.any" = some none
  msup : mg "super" = none
  top : (P.main.scope.names.lookup ("super" : Str)).isSome = false
  fn : ∃ (oc : Value) (od : Option Addr) (qual : Str) (par : Arguments) (sc : Scope) (msg : Expr) (p1 p2 p3 p4 p5 : Pos) (fp : List FP) (dV kV doc pm : Value) (an : Option Addr) (cda cc : Addr) (ct : Value) (osl : Array (Option Value)) (ar : Arg)
      (ccl cl : Value) (cdd cld : Option Addr) (ccs csl : Array (Option Value)) (vs : Array Value) (file : Str) (tf : Tok),
    K.lookup fI = some ⟨oc, od, .func (ksFn "__init__" qual par (stS msg p1 p2 p3 p4 p5 :: fp.map stF) sc dV kV doc pm an (.ref cda) ct cc), osl⟩ ∧ codeIn K (.ref cda) qual = true ∧
    (par.posonlyargs ++ par.args).head? = some ar ∧ ar.arg = "self" ∧ K.lookup cda = some ⟨ccl, cdd, .fields vs, ccs⟩ ∧ vs[2]? = some (.str file tf) ∧ ((P.main.file : Str) == file) = true ∧
    K.lookup cc = some ⟨cl, cld, .cell (some (.ref C)), csl⟩ ∧ fp.map (·.1) = fs ∧ (p3.endLine == p4.line) = true ∧
    (sc.names.lookup ("super" : Str) = some .globalImplicit ∧ sc.names.lookup ("__class__" : Str) = some .free ∧ sc.names.lookup ("self" : Str) = some .local ∧ (∀ f ∈ fs, sc.names.lookup f = some .local) ∧ (∀ f ∈ fs, (f == ("__debug__" : Str)) = false) ∧ (∀ y ∈ sc.names, y.2 ≠ .cell)) ∧
    (sc.kind = .function ∧ sc.isGenerator = false ∧ sc.isCoroutine = false) ∧
    (∀ (s : Shared) (x : Value) (us : List Value), us.length = fs.length → BindsTo s (ksFn "__init__" qual par (stS msg p1 p2 p3 p4 p5 :: fp.map stF) sc dV kV doc pm an (.ref cda) ct cc) ⟨x :: us, []⟩ (("self", x) :: fs.zip us)) ∧
    (∀ (x : Value) (us : List Value), us.length = fs.length → ((("self" : Str), x) :: fs.zip us).reverse.lookup ("self" : Str) = some x ∧ Paired (fun f u => ((("self" : Str), x) :: fs.zip us).reverse.lookup f = some u) fs us) ∧
    ((tm = false ∧ ∃ (z : Str) (i : Nat) (p : Pos), msg = .Constant (.str z) i p) ∨ tm = true ∧ ∃ (z f : Str) (i : Nat) (p p' p'' : Pos), msg = .BinOp (.Constant (.str z) i p) .Add (.Name f p') p'' ∧ z.length ≤ 100 ∧ fs.head? = some f)
/-- what __init__ leaves of a fresh exception at x -/
structure InitEnd (h h' : Heap) (x C dx t1 : Addr) (fs : List Str) (vs : List L2.V) : Prop where
  keep : ∀ b o, b ≠ x → h.get? b = some o → h'.get? b = some o
  obj : h'.get? x = some { cls := .ref C, dict := some dx, data := .fields #[.ref t1, .none, .none, .none, .bool false, .none] }
  dbig : h.objs.size ≤ dx
  dne : dx ≠ x
  ns : ∃ mB, h'.Ns1 dx mB ∧ ∀ f, L2.RelO ((fs.zip vs).reverse.lookup f) (mB f)
/-- the built-in __init__, bound, called -/
theorem call_bw {h : Heap} {g : Array GenState} {d : Drawn} {t : Nat} {os : OsState} {u e t0 : Addr} {rest : List Value} {names : List Str} {Q : Value → Shared → Prop} (T : ClsK K C names) (X : K.In h)
    (he : h.get? e = some (excO C t0)) (hu : h.get? u = some (kxs_mw "ValueError.__init__" e)) (hrest : rest.length ≤ sizeLine)
    (hq : ∀ h' t1, (∀ b o, b ≠ e → h.get? b = some o → h'.get? b = some o) → h'.get? e = some (excO C t1) → Q .none ⟨h', g, d, t, os⟩) :
    wpAny (model prog w) A (call (.ref u) rest) Q E ⟨h, g, d, t, os⟩ := by
  obtain ⟨nm, q, N, bs, bm, sn, sub, ab, col, dd, k0, k1, k2, k3, k5, hC, hbm⟩ := T.cls
  refine wpAny_call (codeAny_of_tree ?_)
  show wpAny _ A.in1 (callAny (.ref u) ⟨rest, []⟩) _ _ _
  simp only [callAny]
  refine wpAny_bind (wpAny_load hu ?_)
  simp only [kxs_mw, show (Value.type "method-wrapper" == Value.type "method" || Value.type "method-wrapper" == Value.type "builtin_function_or_method" || Value.type "method-wrapper" == Value.type "method-wrapper") = true by decide, if_true]
  refine W.KFB.if_so (by decide) ?_
  refine wpAny_bind (PySem.W.check_bound_init F.excBase_ValueError.toExcCallFacts (X _ _ hC) he rfl ?_)
  refine wpAny_bind (wpAny_pure (wpAny_pure ?_))
  refine ⟨plainId_quiet F.excBase_ValueError.init.plain _, codeAny_builtin F.excBase_ValueError.initEntry ?_⟩
  exact exc_init_tree (cls := .ref C) (t0 := t0) (dv := none) (c2 := .none) (c3 := .none) (b4 := .bool false) he hrest fun h' k e' _ => hq h' _ k e'
/-- the text that super().__init__ gets -/
def MsgOk (msg : Expr) (env : Env) (m : Str → Option Value) : Prop := ∀ (prog : Program) (w : World) (A : Around) (E : Value → Shared → Prop) (s : Shared) (Q : Value → Shared → Prop), s.heap.Ns env.locals m → (∀ v tk, Q v { s with toks := tk }) → wpAny (model prog w) A (eval msg env) Q E s
/-- its __init__, called -/
theorem err_init {mg : Str → Option Value} {cn : Str} {fI : Addr} {fs : List Str} {tm : Bool} (T : ErrTxt prog K mg tm cn C fI fs) {x t0 : Addr} {us : List Value} {vs : List L2.V} {mb : Str → Option Value} {R : Result → Shared → Prop} (hv : L2.Vals vs us) (hl : us.length = fs.length) (hl8 : fs.length ≤ 8) (hne : fs ≠ [])
    (hmsg : tm = true → ∀ u, us.head? = some u → ∃ (z : Str) (t : Tok), u = .str z t ∧ z.length ≤ 1000)
    (X : K.In s.heap) (hlim : s.heap.NoLimit) (hg : s.heap.Ns mainGlobals mg) (hb : s.heap.Ns builtinsNs mb) (hbs : mb "super" = bootBuiltins "super") (hx : s.heap.get? x = some (excO C t0)) (hnx : K.lookup x = none) (hroom : A.depth < recursionLimit)
    (hq : ∀ h' tk dx t1, InitEnd s.heap h' x C dx t1 fs vs → R (.ok (.ret .none)) { s with heap := h', toks := tk }) :
    codeAny (model prog w) A (.call (.ref fI) ⟨.ref x :: us, []⟩) R s := by
  obtain ⟨oc, od, qual, par, sc, msg, p1, p2, p3, p4, p5, fp, dV, kV, doc, pm, an, cda, cc, ct, osl, ar, ccl, cl, cdd, cld, ccs, csl, avs, file, tf, ho, hcd, har, hself, hcda, hfile, hfe, hcell, hfp, hpos, ⟨nS, nC, nSelf, nF, nD, nCell⟩, ⟨kF, kG, kCo⟩, hbind, hlook, hm⟩ := T.fn
  obtain ⟨lself, lf⟩ := hlook (.ref x) us hl
  obtain ⟨cd, hcd2, hmro, hhd⟩ := T.toClsK.data
  obtain ⟨oD, hD1, hD2⟩ : ∃ oD, s.heap.get? C = some oD ∧ oD.data = .cls cd := by
    unfold clsIn at hcd2
    split at hcd2
    · rename_i c d cd' sl ho'
      cases hcd2
      exact ⟨_, X _ _ ho', rfl⟩
    · cases hcd2
  have hxC : x ≠ C := fun z => by
    rw [z, hD1] at hx
    cases hx
    cases hD2
  refine ks_codeAny_call_defAt (fd := ksFn "__init__" qual par (stS msg p1 p2 p3 p4 p5 :: fp.map stF) sc dV kV doc pm an (.ref cda) ct cc) (body := stS msg p1 p2 p3 p4 p5 :: fp.map stF) (binds := ("self", .ref x) :: fs.zip us) hroom (X _ _ ho) rfl hlim (codeRec_of X hcd) rfl (hbind s (.ref x) us hl) nCell ?_ (fun h₁ hns hk₁ => ?_) kCo kG kF
  · intro y hy
    rcases List.mem_cons.mp hy with rfl | hy
    · exact nSelf
    · exact nF _ (List.of_mem_zip hy).1
  have X₁ : K.In h₁ := X.keeps hk₁
  have hx₁ := hk₁ _ _ hx
  have hLx : s.heap.objs.size ≠ x := Nat.ne_of_gt (Heap.lt_size hx)
  have hMsg : MsgOk msg (ksEnv qual sc s.heap.objs.size fI (.ref cda) cc) (fun y => (((("self" : Str), Value.ref x) :: fs.zip us).reverse.lookup y)) := by
    intro prog w A E s1 Q hn1 hq1
    rcases hm with ⟨_, z, i, p, rfl⟩ | ⟨htm, z, f, i, p, p', p'', rfl, hz, hf⟩
    · exact wpAny_Constant_str (hq1 _ _)
    · cases lf with
      | nil => cases hf
      | cons h1 _ =>
        cases hf
        obtain ⟨z2, t2, rfl, hz2⟩ := hmsg htm _ rfl
        refine wpAny_BinOp (wpAny_Constant_str (ld (env := ksEnv qual sc s.heap.objs.size fI (.ref cda) cc) hn1 h1 ?_ kF (nF _ (List.mem_cons_self ..)) (nD _ (List.mem_cons_self ..))))
        exact add_str (fun t' tk => hq1 _ _) (by rw [sizeLine_eq]; omega)
  obtain ⟨kind, names, isG, isC, more⟩ := sc
  dsimp only at kF kG kCo nS nC nSelf nF nCell
  subst kF kG kCo
  obtain ⟨pl, he⟩ : ∃ pl, eval (.Call (.Attribute (.Call (.Name "super" p1) [] [] p2) "__init__" p3) [msg] [] p4) (ksEnv qual ⟨.function, names, false, false, more⟩ s.heap.objs.size fI (.ref cda) cc) = (do
      let ov ← attributeBase (.Call (.Name "super" p1) [] [] p2) "__init__" (ksEnv qual ⟨.function, names, false, false, more⟩ s.heap.objs.size fI (.ref cda) cc) (eval (.Call (.Name "super" p1) [] [] p2) (ksEnv qual ⟨.function, names, false, false, more⟩ s.heap.objs.size fI (.ref cda) cc))
      standAt p3.atName
      let (f, first) ← holding [ov] (getMethod ov "__init__" pl)
      callWith p4 f first (backTo p4 (starEach [msg] (ksEnv qual ⟨.function, names, false, false, more⟩ s.heap.objs.size fI (.ref cda) cc))) []) := by
    have hmp : ∀ o env, methodCallPos true o env p3 p4 = pure p4 := fun o env => by
      unfold methodCallPos
      rw [hpos] <;> rfl
    have key : ∀ ms : Expr, methodCallForm ([ms].length + ([] : List Keyword).length) (backTo p4 (starEach [ms] (ksEnv qual ⟨.function, names, false, false, more⟩ s.heap.objs.size fI (.ref cda) cc))) (backToKw p4 (keywordEach [] (ksEnv qual ⟨.function, names, false, false, more⟩ s.heap.objs.size fI (.ref cda) cc))) = true →
        eval (.Call (.Attribute (.Call (.Name "super" p1) [] [] p2) "__init__" p3) [ms] [] p4) (ksEnv qual ⟨.function, names, false, false, more⟩ s.heap.objs.size fI (.ref cda) cc) = (do
      let ov ← attributeBase (.Call (.Name "super" p1) [] [] p2) "__init__" (ksEnv qual ⟨.function, names, false, false, more⟩ s.heap.objs.size fI (.ref cda) cc) (eval (.Call (.Name "super" p1) [] [] p2) (ksEnv qual ⟨.function, names, false, false, more⟩ s.heap.objs.size fI (.ref cda) cc))
      standAt p3.atName
      let (f, first) ← holding [ov] (getMethod ov "__init__" (do return (← importBound (.Call (.Name "super" p1) [] [] p2) (ksEnv qual ⟨.function, names, false, false, more⟩ s.heap.objs.size fI (.ref cda) cc)).getD true))
      callWith p4 f first (backTo p4 (starEach [ms] (ksEnv qual ⟨.function, names, false, false, more⟩ s.heap.objs.size fI (.ref cda) cc))) []) := by
      intro ms hf
      show (do
        let ov ← attributeBase (.Call (.Name "super" p1) [] [] p2) "__init__" (ksEnv qual ⟨.function, names, false, false, more⟩ s.heap.objs.size fI (.ref cda) cc) (eval (.Call (.Name "super" p1) [] [] p2) (ksEnv qual ⟨.function, names, false, false, more⟩ s.heap.objs.size fI (.ref cda) cc))
        standAt p3.atName
        methodCall (.Call (.Name "super" p1) [] [] p2) "__init__" p3 p4 (ksEnv qual ⟨.function, names, false, false, more⟩ s.heap.objs.size fI (.ref cda) cc) ov ([ms].length + ([] : List Keyword).length) (backTo p4 (starEach [ms] (ksEnv qual ⟨.function, names, false, false, more⟩ s.heap.objs.size fI (.ref cda) cc))) (backToKw p4 (keywordEach [] (ksEnv qual ⟨.function, names, false, false, more⟩ s.heap.objs.size fI (.ref cda) cc)))) = _
      unfold methodCall
      simp only [hf, hmp, pure_bind]
      rfl
    rcases hm with ⟨_, z, i, p, rfl⟩ | ⟨htm, z, f, i, p, p', p'', rfl, hz, hf⟩
    · exact ⟨_, key _ rfl⟩
    · exact ⟨_, key _ rfl⟩
  have hst : starEach [msg] (ksEnv qual ⟨.function, names, false, false, more⟩ s.heap.objs.size fI (.ref cda) cc) = [(false, eval msg (ksEnv qual ⟨.function, names, false, false, more⟩ s.heap.objs.size fI (.ref cda) cc))] := by
    rcases hm with ⟨_, z, i, p, rfl⟩ | ⟨htm, z, f, i, p, p', p'', rfl, hz, hf⟩
    · rfl
    · rfl
  -- super().__init__(..)
  refine ks_wpAt_execs_cons (ks_wpAt_Expr_any (ks_wpAt_MethodCall (pl := pl) ?_ he))
  refine ks_wpAt_super_base (env := ksEnv qual ⟨.function, names, false, false, more⟩ s.heap.objs.size fI (.ref cda) cc) nS nC (by decide) rfl (hk₁ _ _ (X _ _ ho)) rfl har rfl (X₁ _ _ hcda) rfl hfile hfe T.top ?_
  refine ks_loadName_global rfl nS (loadGlobal_builtin (env := ksEnv qual ⟨.function, names, false, false, more⟩ s.heap.objs.size fI (.ref cda) cc) (hg.keeps hk₁) T.msup (hb.keeps hk₁) (hbs.trans (by first | boot_by_name | rfl | kernel_rfl)) ⟨rfl, ?_⟩)
  refine wpAny_loadName_free rfl nC rfl ⟨_, X₁ _ _ hcell, rfl⟩ ?_
  rw [hself]
  refine wpAny_loadName_local rfl nSelf hns lself ?_
  refine ks_wpAny_isType_cls (hk₁ _ _ hD1) hD2 ⟨rfl, ?_⟩
  refine ks_wpAny_call_super (hk₁ _ _ hD1) hD2 hx₁ rfl (fun c e => by cases e) (looks_mroIn X₁ T.mro) (fun h₂ eso k₂ => ?_)
  have X₂ : K.In h₂ := X₁.keeps k₂
  have hx₂ := k₂ _ _ hx₁
  have hnsU : ∀ {h : Heap}, (∀ b o, h₁.get? b = some o → h.get? b = some o) → h.Ns s.heap.objs.size (fun y => ((("self" : Str), Value.ref x) :: fs.zip us).reverse.lookup y) := fun {h} k => hns.keeps k
  have hsup := T.sup
  unfold ks_superIn at hsup
  rw [hcd2] at hsup
  refine kxs_getMethod kxs_ValueError (K := K) eso (looks_opaque X₂ T.opq) (l₀ := cd.mro) ?_ rfl X₂ hsup ?_ hxC (by decide) ?_
  · exact fun A Q E s k q => wpAny_bind ((looks_clsIn X₂ hcd2) A _ E s k (wpAny_pure q))
  · exact (InstAt.type (od := none) ⟨hx₂, rfl, rfl, trivial⟩).andThen (looks_subIn X₂ T.veC)
  · have k₃ : ∀ b o, h₂.get? b = some o → (h₂.push (kxs_mw "ValueError.__init__" x)).get? b = some o := fun b o e => Heap.get?_push_of_some _ e
    show wpAny _ _ (callWith p4 (.ref h₂.objs.size) [] (backTo p4 (starEach [msg] (ksEnv qual ⟨.function, names, false, false, more⟩ s.heap.objs.size fI (.ref cda) cc))) []) _ _ _
    rw [hst]
    refine kxs_callWith (i := "ValueError.__init__") (x := x) rfl (evalArgs_plain ?_)
    refine spliced_cons ?_
    refine hMsg prog w _ _ _ _ (hnsU fun b o e => k₃ b o (k₂ b o e)) (fun v tk => spliced_nil ⟨?_, ?_⟩)
    · exact Heap.get?_push_at rfl rfl
    · refine call_bw T.toClsK (X₂.keeps k₃) (k₃ _ _ hx₂) (Heap.get?_push_at rfl rfl) (by rw [sizeLine_eq]; exact (by decide : 1 ≤ 16777216)) (fun h₄ t1 k₄ hx₄ => ?_)
      have hsz : ∀ {b : Addr} {o : Obj}, s.heap.get? b = some o → b ≠ x → h₄.get? b = some o := fun {b o} e hb => k₄ b o hb (k₃ b o (k₂ b o (hk₁ b o e)))
      have hL4 : h₄.Ns s.heap.objs.size (fun y => ((("self" : Str), Value.ref x) :: fs.zip us).reverse.lookup y) := by
        obtain ⟨o, es, ep, e1, e2⟩ := hns
        exact ⟨o, es, ep, k₄ _ _ hLx (k₃ _ _ (k₂ _ _ e1)), e2⟩
      cases fp with
      | nil => exact absurd hfp.symm (by simpa using hne)
      | cons q fp =>
        have hP : Paired (fun (q : FP) u => ((("self" : Str), Value.ref x) :: fs.zip us).reverse.lookup q.1 = some u) (q :: fp) us := by
          rw [← hfp] at lf
          have key : ∀ (m : Str → Option Value) (l : List FP) (us : List Value), Paired (fun f u => m f = some u) (l.map (·.1)) us → Paired (fun (q : FP) u => m q.1 = some u) l us := by
            intro m l
            induction l with
            | nil => intro us h; cases h; exact .nil
            | cons a l ih => intro us h; cases h with | cons h1 h2 => exact .cons h1 (ih _ h2)
          have := key (fun y => ((("self" : Str), Value.ref x) :: fs.zip us).reverse.lookup y) (q :: fp) us (by simpa [hfp] using lf)
          exact this
        show wpAt _ _ _ (execs ((q :: fp).map stF) _) _ _ _
        refine wpAt_of_wpAny (stores_new (m := fun y => (((("self" : Str), Value.ref x) :: fs.zip us).reverse.lookup y)) T.toClsK (env := ksEnv qual ⟨.function, names, false, false, more⟩ s.heap.objs.size fI (.ref cda) cc) rfl nSelf lself q fp us vs hv (fun q' hq' => ?_) hP ⟨h₄, s.gens, s.drawn, tk, s.os⟩ _ ((fun a o e => hsz (X a o e) (fun z => by rw [z, hnx] at e; cases e))) hL4 hLx hnx hx₄ ?_ (fun h' tk' dx mB k5 dn dne hx5 hn5 r5 => ?_))
        · have hin : q'.1 ∈ fs := by rw [← hfp]; exact List.mem_map_of_mem hq'
          exact ⟨hin, nF _ hin, nD _ hin⟩
        · have : (q :: fp).length = fs.length := by rw [← hfp, List.length_map]
          simp only [List.length_cons] at this
          omega
        · refine hq h' tk' dx t1 ⟨fun b o hb e => k5 b o hb (hsz e hb), hx5, ?_, dne, mB, hn5, ?_⟩
          · refine Nat.le_trans ?_ dn
            have z1 : s.heap.objs.size < h₄.objs.size := by
              obtain ⟨o, es, ep, e1, e2⟩ := hL4
              exact Heap.lt_size e1
            exact Nat.le_of_lt z1
          · intro f
            have := r5 f
            rw [hfp] at this
            exact this
/-- a made error -/
structure OwnMade (h h' : Heap) (e C d : Addr) (fs : List Str) (vs : List L2.V) : Prop where
  keep : ∀ b o, h.get? b = some o → h'.get? b = some o
  new : h.objs.size ≤ e
  obj : ∃ oe as, h'.get? e = some oe ∧ oe.cls = .ref C ∧ oe.dict = some d ∧ oe.data = .fields as ∧ as[1]? = some .none
  dbig : h.objs.size ≤ d
  dne : d ≠ e
  ns : ∃ mB, h'.Ns1 d mB ∧ ∀ f, L2.RelO ((fs.zip vs).reverse.lookup f) (mB f)
theorem err_made {mg : Str → Option Value} {cn : Str} {fI : Addr} {fs : List Str} {tm : Bool} (T : ErrTxt prog K mg tm cn C fI fs) {us : List Value} {vs : List L2.V} {mb : Str → Option Value} {R : Result → Shared → Prop} (hv : L2.Vals vs us) (hl : us.length = fs.length) (hl8 : fs.length ≤ 8) (hne : fs ≠ [])
    (hmsg : tm = true → ∀ u, us.head? = some u → ∃ (z : Str) (t : Tok), u = .str z t ∧ z.length ≤ 1000)
    (X : K.In s.heap) (hlim : s.heap.NoLimit) (hg : s.heap.Ns mainGlobals mg) (hb : s.heap.Ns builtinsNs mb) (hbs : mb "super" = bootBuiltins "super") (hroom : A.depth + 1 < recursionLimit)
    (hq : ∀ h' tk e d, OwnMade s.heap h' e C d fs vs → R (.ok (.ret (.ref e))) { s with heap := h', toks := tk }) :
    codeAny (model prog w) A (.call (.ref C) ⟨us, []⟩) R s := by
  obtain ⟨nm, q, N, bs, bm, sn, sub, ab, col, dd, k0, k1, k2, k3, k5, hC, hbm⟩ := T.cls
  obtain ⟨hp, g, dr, tk, os⟩ := s
  have k : ∀ b o, hp.get? b = some o → ((hp.push (kdv_tup us)).push (excO C hp.objs.size)).get? b = some o := fun b o e => Heap.get?_push_of_some _ (Heap.get?_push_of_some _ e)
  have hget : ((hp.push (kdv_tup us)).push (excO C hp.objs.size)).get? (hp.objs.size + 1) = some (excO C hp.objs.size) := by heap_get
  have hnx : K.lookup (hp.objs.size + 1) = none := by
    cases e : K.lookup (hp.objs.size + 1) with
    | none => rfl
    | some o =>
      have z : hp.get? (hp.objs.size + 1) = some o := X _ _ e
      exact absurd (Nat.lt_of_succ_lt (Heap.lt_size z)) (Nat.lt_irrefl _)
  refine call_own F.excBase_ValueError (fun X => refsVE_contains X bm hbm) (X _ _ hC) (looks_findIn X T.iC) (fun self => bind_fn X self T.tC) (by rw [sizeLine_eq]; omega) ?_
  refine err_init (s := ⟨(hp.push (kdv_tup us)).push (excO C hp.objs.size), g, dr, tk, os⟩) T hv hl hl8 hne hmsg (X.keeps k) (hlim.keeps k) (hg.keeps k) (hb.keeps k) hbs hget hnx ?_ fun h' tk' dx t1 ⟨k', hx, dn, dne, hns⟩ => ?_
  · show A.depth + 1 < recursionLimit
    exact hroom
  · have old : ∀ b o, hp.get? b = some o → h'.get? b = some o := fun b o e => k' b o (Nat.ne_of_lt (Nat.lt_succ_of_lt (Heap.lt_size e))) (k b o e)
    have z : hp.objs.size + 1 + 1 ≤ dx := by
      first
        | (simpa only [Heap.size_push] using dn)
        | exact dn
        | (have q := dn; rw [Heap.size_push, Heap.size_push] at q; exact q)
    exact ⟨rfl, hq h' tk' (hp.objs.size + 1) dx ⟨old, Nat.le_succ _, ⟨_, _, hx, rfl, rfl, rfl, rfl⟩, Nat.le_trans (Nat.le_trans (Nat.le_succ _) (Nat.le_succ _)) z, dne, hns⟩⟩
end
end HErr
end PySem
namespace L2
open PySem PySem.Spec PyProof.Rows PySem.HErr
section
variable {X : Cx} {C fI : Addr} {cn : Str} {fs : List Str} {tm : Bool}
/-- C(e, ..), an error of the package -/
def tMkE (tm : Bool) (C : Addr) (fs : List Str) (ta : TA) : St → Hp → XK → Prop := fun σ H Q => ta σ H fun vs H1 => vs.length = fs.length ∧ (tm = true → ∃ (z : Str) (r : List V), vs = .str z :: r ∧ z.length ≤ 1000) ∧
  ∀ d, H1 d = none → Q (.ref C) (some d) (upd H1 d (.xd (fs.zip vs).reverse))
theorem pmk_err {a : Expr} {as : List Expr} {ta : TA} {p pos : Pos} {k : Nat} (T : ErrTxt X.prog X.K X.mg tm cn C fI fs) (hr : Room k X.A) (ha : PA X (a :: as) ta) (hl8 : fs.length ≤ 8) (hne : fs ≠ []) (hg : Gl X cn := by rfl) (hdb : (cn == ("__debug__" : Str)) = false := by decide)
    (he : starEach (a :: as) X.env = (false, eval a X.env) :: starEach as X.env := by rfl) (hpl : (backTo pos (starEach as X.env)).any (·.1) = false := by rfl) :
    PMk X (.Call (.Name cn p) (a :: as) [] pos) (tMkE tm C fs ta) := by
  intro pins s σ H Q I h
  refine wpAny_Call_Name_kw (ld_glob I hg T.gC ?_ hdb)
  refine PySem.W.callWith_K (h₀ := X.base) I.ok.mod.kin T.kC (thn (ha.run pos pins s σ H _ I h) fun us s1 hh => ?_) he hpl
  obtain ⟨vs, H1, I1, r1, hl, hz, q1⟩ := hh
  refine ⟨I1.kIn, ?_⟩
  show wpAny _ _ (call (.ref C) us) _ _ _
  have hlim := I1.nolimit
  obtain ⟨mb, hb1, hb2⟩ := I1.mod.blt
  have hgl := I1.mod.glob.keeps I1.bk
  have hbl := hb1.keeps I1.bk
  obtain ⟨hp, g, dr, tk, os⟩ := s1
  refine wpAny_call (err_made (mb := mb) T r1 (r1.length.symm.trans hl) hl8 hne ?_ I1.kIn hlim hgl hbl (hb2 "super" (by decide)) (by have := hr.dp; omega) fun h' tk' e d M => ?_)
  · intro ht u hu
    obtain ⟨z, r, rfl, hz5⟩ := hz ht
    cases r1 with
    | cons r0 _ =>
      cases hu
      obtain ⟨t, rfl⟩ := r0
      exact ⟨z, t, rfl, hz5⟩
  show MkP X pins σ Q (.ref e) ⟨h', g, dr, tk', os⟩
  obtain ⟨oe, fv, hoe, hc, hd, hdat, h1⟩ := M.obj
  obtain ⟨mB, hns, hrel⟩ := M.ns
  obtain ⟨G', g1, g2⟩ := restrict h' fun b => decide (b ≠ e)
  have gk : ∀ b, b ≠ e → G'.get? b = h'.get? b := fun b hb => g1 b (decide_eq_true hb)
  have ge : G'.get? e = none := g2 e (by simp)
  have old : ∀ b o, hp.get? b = some o → G'.get? b = some o := fun b o q => (gk b (Nat.ne_of_lt (Nat.lt_of_lt_of_le (Heap.lt_size q) M.new))).trans (M.keep b o q)
  have ob : ObjOk X.prog X.w (upd H1 d (.xd (fs.zip vs).reverse)) G' d (.xd (fs.zip vs).reverse) :=
    ⟨mB, hns.at (fun o q => (gk d M.dne).trans q), hrel⟩
  have J : Inv X pins σ (upd H1 d (.xd (fs.zip vs).reverse)) ⟨G', g, dr, tk', os⟩ := I1.laid (t' := tk') old M.dbig ob
  refine ⟨e, oe, fv, ⟨G', g, dr, tk', os⟩, _, .ref C, some d, rfl, J, fun b o q => ?_, ge, hoe, ⟨hc, hd⟩, hdat, h1, ?_, rfl, I1.bare, raises_own T.exC T.tyC, q1 d (I1.hok.fresh M.dbig)⟩
  · by_cases hb : b = e
    · have q' : G'.get? b = some o := q
      rw [hb, ge] at q'; cases q'
    · exact (gk b hb).symm.trans q
  · rw [upd_ne (Ne.symm M.dne)]
    exact I1.hok.fresh M.new
/-- raise C(e, ..) -/
def tRaiseE (tm : Bool) (C : Addr) (fs : List Str) (W : WX) (ta : TA) : TS := fun _ σ H => tMkE tm C fs ta σ H fun cls d H' => W cls d σ H'
theorem ps_raiseE {a : Expr} {as : List Expr} {ta : TA} {W : WX} {p pos pos2 : Pos} {k : Nat} (hc : X.calm = true) (T : ErrTxt X.prog X.K X.mg tm cn C fI fs) (hr : Room k X.A) (tk : Takes X W) (ha : PA X (a :: as) ta) (hl8 : fs.length ≤ 8 := by decide) (hne : fs ≠ [] := by decide) (hg : Gl X cn := by rfl) (hdb : (cn == ("__debug__" : Str)) = false := by decide)
    (he : starEach (a :: as) X.env = (false, eval a X.env) :: starEach as X.env := by rfl) (hpl : (backTo pos (starEach as X.env)).any (·.1) = false := by rfl) :
    PS X (.Raise (some (.Call (.Name cn p) (a :: as) [] pos)) none pos2) (tRaiseE tm C fs W ta) := ps_raise hc tk (pmk_err T hr ha hl8 hne hg hdb he hpl)
/-- an own class in an except clause -/
theorem _root_.PySem.HErr.ErrTxt.xf {P : Program} {K : PySem.W.Frag} {mg : Str → Option Value} (T : ErrTxt P K mg tm cn C fI fs) : XfC K C := ⟨T.ga, T.gg, T.exC, T.hdC⟩
theorem _root_.PySem.HErr.ErrTxt.te {P : Program} {K : PySem.W.Frag} {mg : Str → Option Value} (T : ErrTxt P K mg tm cn C fI fs) : PySem.W.exmOne K (.ref C) (.ref C) = some true := PySem.W.exm_ref T.exC T.hdC T.tyC T.sub
/-- what isinstance asks of the class of an error -/
structure IsC (K : PySem.W.Frag) (D : Addr) : Prop where
  hg : PySem.W.findIn K (.ref D) "__getattribute__" = some (some (.builtin "BaseException.__getattribute__"))
  hk : PySem.W.findIn K (.ref D) "__getattr__" = some none
  hs : PySem.W.subIn K (.ref D) (.type "BaseException") = some true
  hd : PySem.W.hasDictIn K D = true
  ha : PySem.W.findIn K (.ref D) "__class__" = some (some (.builtin "object.__class__"))
  hn : PySem.W.specialIn K (.builtin "object.__class__") "__get__" = some (some (.builtin "getset_descriptor.__get__"))
  ht : PySem.W.takesIn K (.builtin "object.__class__") = some true
  hm : PySem.W.mroIn K D (.type "object") = some true
theorem _root_.PySem.HErr.ErrTxt.isC {P : Program} {K : PySem.W.Frag} {mg : Str → Option Value} (T : ErrTxt P K mg tm cn C fI fs) : IsC K C := ⟨T.ga, T.gg, T.exC, T.hdC, T.ca, T.cg, T.ct, T.mo⟩
/-- isinstance(e, c), e the error (with fields) that the suite holds -/
def rIsD (K : PySem.W.Frag) (cls : Value) (d : Option Addr) (a : Addr) : List V → Hp → VK → Prop := fun xs H Q => ∃ (D dd : Addr) (fs : List (Str × V)) (c : V) (cv : Value) (b : Bool), cls = .ref D ∧ IsC K D ∧ d = some dd ∧ H dd = some (.xd fs) ∧ xs = [.ref a, c] ∧ (∀ u, RelV c u → u = cv) ∧ PySem.W.kitOne K (.ref D) cv = some b ∧ Q (.bl b) H
theorem call_isD {a : Addr} {oe : Obj} {cls : Value} {d : Option Addr} {pn : List (Addr × Obj)} (hz : Zc cls d oe) (hf : ∃ vs, oe.data = .fields vs) : CallR (X.suite a ((a, oe) :: pn)) (.builtin "isinstance") (rIsD X.K cls d a) := by
  intro pins s σ H xs us Q I r h
  obtain ⟨D, dd, fs, c, cv, b, rfl, C, rfl, hdd, rfl, hcv, e, q⟩ := h
  cases r with
  | cons rx rr =>
    cases rr with
    | cons rt rr =>
      cases rr
      cases rx
      have ec := hcv _ rt
      subst ec
      obtain ⟨hget, _⟩ := I.pin (a, oe) (List.mem_append.mpr (.inl List.mem_cons_self))
      obtain ⟨vs, hv⟩ := hf
      have hx : ObjOk X.prog X.w H s.heap dd (.xd fs) := I.hok dd _ hdd
      obtain ⟨mA, hns, hr⟩ := hx
      obtain ⟨od, ho, hl⟩ := lookIn_ns hns
      have J : PySem.W.InstAt s.heap a oe D (some od) := ⟨hget, hz.1, by unfold PySem.W.notCls; rw [hv] <;> rfl, by rw [hz.2]; exact ho⟩
      have hcl : (PySem.W.clsIn X.K D).isSome = true := by
        obtain ⟨cd, hc, _⟩ := PySem.W.any_some C.hd
        rw [hc]
        rfl
      exact PySem.W.kia_one (PySem.W.kitx_exc hcl C.hg C.hk C.hs C.ha C.hn C.ht C.hm) I.kIn J e (fun z => nomatch z) fun tk => ⟨.bl b, H, I.kept (t' := tk) fun _ _ z => z, rfl, q⟩
end
end L2

set_option Elab.async false
set_option linter.all false
set_option maxRecDepth 100000
set_option maxHeartbeats 4000000
/-! try with several except clauses, each with or without a name. -/
namespace L2
open PySem PySem.Spec PyProof.Rows PySem.HErr
abbrev Clause := Value × Option Nat × (Addr → Value → Option Addr → TS)
def endsAt (o : Option Nat) (D : Ends) : Ends := match o with
  | none => D
  | some i => { nx := fun σ H => D.nx (σ.set i none) H, rt := D.rt, bk := fun σ H => D.bk (σ.set i none) H, ct := fun σ H => D.ct (σ.set i none) H }
def slotAt (o : Option Nat) (a : Addr) (σ : St) : St := match o with
  | none => σ
  | some i => σ.set i (some (.ref a))
/-- what the clauses want of an exception of the body, from the first on -/
def wClauses (K : PySem.W.Frag) (Wout : WX) (D : Ends) : List Clause → WX
  | [] => Wout
  | (c, o, ts) :: r => fun cls d σ H => ∃ b, PySem.W.exmOne K cls c = some b ∧ (b = true → ∀ a, H a = none → ts a cls d (endsAt o D) (slotAt o a σ) H) ∧ (b = false → wClauses K Wout D r cls d σ H)
inductive Clauses (X : Cx) : List ExceptHandler → List Clause → Prop
  | nil : Clauses X [] []
  | bare {x : Str} {c : Value} {ts : Addr → Value → Option Addr → TS} {b₀ : Stmt} {suite : List Stmt} {np pos' : Pos} {hds : List ExceptHandler} {l : List Clause} (hc : Names X x c)
      (hsu : ∀ (a : Addr) (oe : Obj) (cls : Value) (d : Option Addr) (pn : List (Addr × Obj)), Zc cls d oe → (∃ vs, oe.data = .fields vs) → PSs (X.suite a ((a, oe) :: pn)) (b₀ :: suite) (ts a cls d)) (r : Clauses X hds l) :
      Clauses X (.ExceptHandler (some (.Name x np)) none (b₀ :: suite) pos' :: hds) ((c, none, ts) :: l)
  | named {x n : Str} {i : Nat} {c : Value} {ts : Addr → Value → Option Addr → TS} {b₀ : Stmt} {suite : List Stmt} {np pos' : Pos} {hds : List ExceptHandler} {l : List Clause} (hi : X.N[i]? = some n) (hln : X.env.kindOf n = some .local) (hc : Names X x c)
      (hsu : ∀ (a : Addr) (oe : Obj) (cls : Value) (d : Option Addr) (pn : List (Addr × Obj)), Zc cls d oe → (∃ vs, oe.data = .fields vs) → PSs (X.suite a ((a, oe) :: pn)) (b₀ :: suite) (ts a cls d)) (r : Clauses X hds l) :
      Clauses X (.ExceptHandler (some (.Name x np)) (some n) (b₀ :: suite) pos' :: hds) ((c, some i, ts) :: l)
section
variable {X : Cx} {body : List Stmt} {h₀ : ExceptHandler} {hds : List ExceptHandler} {l : List Clause} {pos : Pos} {tb : WX → TS} {Wout : WX}
theorem ps_try_all (hs : X.stack = X.env :: X.outer) (hf : X.env.frame = some X.env.locals) (hN : X.N.Nodup) (tk : Takes X Wout)
    (hb : ∀ (W : WX) (pn : List (Addr × Obj)) (xe : Value → Shared → Prop), Takes (X.tr pn xe) W → PassesOwn (model X.prog X.w) X.A X.env xe → PSs (X.tr pn xe) body (tb W))
    (hh : Clauses X (h₀ :: hds) l) {K : PySem.W.Frag} (hK : X.K = K := by rfl) : PS X (.Try body (h₀ :: hds) [] [] pos) (fun D σ H => tb (wClauses K Wout D l) D σ H) := by
  subst hK
  refine ⟨fun pins s σ H D I h => ?_⟩
  have ok := I.ok
  have hfr : X.A.frames = some (X.env :: X.outer) := by rw [ok.frames, hs]
  refine wpAny_Try_except ?_
  refine wpAny_mono ((hb (wClauses X.K Wout D l) (X.pn ++ pins) (fun e s₁ => wpAny (model X.prog X.w) X.A (noteFrame e X.env) (fun _ s₂ => wpAny (model X.prog X.w) X.A (setFlight e none) (fun _ s₃ =>
    wpAny (model X.prog X.w) X.A (handleBy e X.env (h₀ :: hds)) (SP X pins D) X.xe s₃) X.xe s₂) X.xe s₁) (fun u s' xx => ?_) PassesOwn.looking).run [] s σ H D (I.toTry _) h) (fun f s1 hsp => ?_) (fun e s1 he => he)
  · obtain ⟨a, Bg, sI, pins', σ', H', cls, d, rfl, J', nb, up, sky, na, os, ag, ww⟩ := xx
    have J : Inv X pins σ' H' sI := J'.ofTry ok
    have sky' : Sky Bg (X.env :: X.outer) a (Zc cls d) X.env.locals s'.heap := by rw [← hs]; exact sky
    show wpAny (model X.prog X.w) X.A (noteFrame (.ref a) X.env) _ _ _
    refine Sky.land Zc.steady hfr hf sky' fun h3 fl3 up3 => ?_
    have J3 : Inv X pins σ' H' { s' with heap := h3 } := J.landed nb fl3.1 (up.trans up3) os ag
    obtain ⟨oe3, vs3, he3, hz3, hd3⟩ := fl3.there
    have nfr : a ∉ frs (X.env :: X.outer) := fun hm => by
      obtain ⟨_, o', e', hnf⟩ := fl3.2.2.1.mem hm
      rw [he3] at e'
      cases e'
      exact hnf _ hd3
    have nL : a ≠ X.env.locals := fun z => nfr (List.mem_filterMap.mpr ⟨X.env, List.mem_cons_self, by rw [hf, z]⟩)
    have nF : a ∉ X.fs := fun hm => by
      obtain ⟨e, he, q⟩ := List.mem_filterMap.mp hm
      exact nfr (List.mem_filterMap.mpr ⟨e, List.mem_cons_of_mem _ he, q⟩)
    have S3 := J3.suite he3 hd3 na nL nF
    have test : ∀ {x : Str} {c : Value} {np : Pos} {Q : Value → Shared → Prop} {E : Value → Shared → Prop}, Names X x c → Q c { s' with heap := h3 } → wpAny (model X.prog X.w) (X.A.mark (some (.ref a))) (eval (.Name x np) X.env) Q E { s' with heap := h3 } := fun {x c np Q E} hc q => by
      obtain ⟨hg, hdbg, hm | ⟨hm, hv, hnn⟩⟩ := hc
      · exact ld_glob (X := X.suite a ((a, oe3) :: (X.pn ++ pins))) S3 hg hm q hdbg
      · exact ld_blt (X := X.suite a ((a, oe3) :: (X.pn ++ pins))) S3 hg hm hv q hnn hdbg
    have LT : PySem.W.Looks (model X.prog X.w) h3 (typeOf (.ref a)) cls := fun A Q E s k q => wpAny_typeOf_ref (k _ _ he3) (by rw [hz3.1]; exact q)
    have go : ∀ {hds' : List ExceptHandler} {l' : List Clause}, Clauses X hds' l' → wClauses X.K Wout D l' cls d σ' H' →
        wpAny (model X.prog X.w) X.A (handleBy (.ref a) X.env hds') (SP X pins D) X.xe { s' with heap := h3 } := by
      intro hds' l' hk
      induction hk with
      | nil =>
        intro ww
        refine wpAny_handleBy_nil ?_
        obtain ⟨k1, k2, k3, oe, vs, T, oT, ts', he, hz, hd, h1, hr⟩ := id fl3
        unfold PySem.passOn
        refine wpAny_bind (wpAny_field he hd h1 ?_)
        rw [if_neg (show ¬ ((Value.ref T == Value.none) = true) from by simp)]
        have fin : wpAny (model X.prog X.w) X.A (setFlight (.ref a) X.env.frame) (fun _ s4 => wpAny (model X.prog X.w) X.A (throw (.ref a) : Sem Flow) (SP X pins D) X.xe s4) X.xe { s' with heap := h3 } := by
          rw [hf]
          refine HandSPX.setFlight_upZ fl3 fun h4 hh4 up4 => wpAny_throw (tk _ _ ?_)
          exact ⟨a, Bg, sI, pins, σ', H', cls, d, rfl, J, nb, (up.trans up3).trans up4, .inr (.inr (by rw [hs]; exact hh4)), na, os, ag, ww⟩
        first
          | exact wpAny_bind (wpAny_pure (wpAny_bind fin))
          | exact wpAny_bind fin
      | @bare x c ts b₀ suite np pos' hds2 l2 hc hsu r ih =>
        intro ww
        obtain ⟨b, hb1, hyes, hno⟩ := ww
        refine wpAny_handleBy_cons (codeAny_handlers_test ?_) (by intro q; cases q)
        have LM := PySem.W.exm_one (M := model X.prog X.w) (J3.kIn) LT hb1
        refine test hc (LM.here ?_)
        cases b with
        | true =>
          refine codeAny_handlers_suite (HandSPX.lands_againZ fl3 fun h4 fl4 up4 => ?_)
          have J4 : Inv X pins σ' H' { s' with heap := h4 } := J.landed nb fl4.1 ((up.trans up3).trans up4) os ag
          obtain ⟨oe4, vs4, he4, hz4, hd4⟩ := fl4.there
          have S4 := J4.suite he4 hd4 na nL nF
          refine wpAny_mono ((hsu a oe4 cls d (X.pn ++ pins) hz4 ⟨_, hd4⟩).run [] _ _ H' _ S4 (hyes rfl a na)) (fun f s6 hsp => ?_) (fun _ _ z => False.elim z)
          cases f with
          | ret u =>
            obtain ⟨v6, σ6, H6, S6, r6, q6⟩ := hsp
            exact ⟨_, _, _, S6.unsuite ok, r6, q6⟩
          | _ =>
            obtain ⟨σ6, H6, S6, q6⟩ := hsp
            exact ⟨_, _, S6.unsuite ok, q6⟩
        | false =>
          show wpAny _ X.A (handleBy (.ref a) X.env hds2) _ _ _
          exact ih (hno rfl)
      | @named x n i c ts b₀ suite np pos' hds2 l2 hi hln hc hsu r ih =>
        intro ww
        obtain ⟨b, hb1, hyes, hno⟩ := ww
        refine wpAny_handleBy_cons (codeAny_handlers_test ?_) (by intro q; cases q)
        have LM := PySem.W.exm_one (M := model X.prog X.w) (J3.kIn) LT hb1
        refine test hc (LM.here ?_)
        cases b with
        | true =>
          refine codeAny_handlers_suite_as (HandSPX.lands_againZ fl3 fun h4 fl4 up4 => ?_)
          have J4 : Inv X pins σ' H' { s' with heap := h4 } := J.landed nb fl4.1 ((up.trans up3).trans up4) os ag
          obtain ⟨oe4, vs4, he4, hz4, hd4⟩ := fl4.there
          have S4 := J4.suite he4 hd4 na nL nF
          refine store_ok (X := X.suite a ((a, oe4) :: (X.pn ++ pins))) (v := .ref a) S4 hN hi (.inl hln) rfl (fun s5 S5 => ?_) (.inr hln)
          refine wpAny_mono ((hsu a oe4 cls d (X.pn ++ pins) hz4 ⟨_, hd4⟩).run [] s5 _ H' _ S5 (hyes rfl a na)) (fun f s6 hsp => ?_) (fun _ _ z => False.elim z)
          have end_ : ∀ {σ6 : St} {H6 : Hp} {Q : Shared → Prop}, Inv (X.suite a ((a, oe4) :: (X.pn ++ pins))) [] σ6 H6 s6 → (∀ s7, Inv X pins (σ6.set i none) H6 s7 → Q s7) →
              wpAny (model X.prog X.w) X.A (do bindName X.env n .none; unbindBehindTheSuite X.env n pos') (fun _ s7 => Q s7) X.xe s6 := fun {σ6 H6 Q} S6 hq => gone_ok (S6.unsuite ok) hN hi hln hq
          cases f with
          | ret u =>
            obtain ⟨v6, σ6, H6, S6, r6, q6⟩ := hsp
            exact end_ S6 fun s7 J7 => ⟨_, _, _, J7, r6, q6⟩
          | next =>
            obtain ⟨σ6, H6, S6, q6⟩ := hsp
            exact end_ S6 fun s7 J7 => ⟨_, _, J7, q6⟩
          | brk =>
            obtain ⟨σ6, H6, S6, q6⟩ := hsp
            exact end_ S6 fun s7 J7 => ⟨_, _, J7, q6⟩
          | cont =>
            obtain ⟨σ6, H6, S6, q6⟩ := hsp
            exact end_ S6 fun s7 J7 => ⟨_, _, J7, q6⟩
        | false =>
          show wpAny _ X.A (handleBy (.ref a) X.env hds2) _ _ _
          exact ih (hno rfl)
    exact go hh ww
  · cases f with
    | next =>
      obtain ⟨σ', H', J', q⟩ := hsp
      exact wpAny_execs_nil ⟨σ', H', J'.ofTry ok, q⟩
    | brk =>
      obtain ⟨σ', H', J', q⟩ := hsp
      exact ⟨σ', H', J'.ofTry ok, q⟩
    | cont =>
      obtain ⟨σ', H', J', q⟩ := hsp
      exact ⟨σ', H', J'.ofTry ok, q⟩
    | ret u =>
      obtain ⟨v, σ', H', J', r, q⟩ := hsp
      exact ⟨v, σ', H', J'.ofTry ok, r, q⟩
end
end L2

set_option Elab.async false
set_option linter.all false
set_option maxRecDepth 100000
set_option maxHeartbeats 4000000
/-! Defs by their names; the built-ins that the texts use; a module's constants. -/
namespace L2
open PySem PySem.Spec PyProof.Rows PySem.HErr
/-- none of these built-ins is shadowed -/
structure Bl (mg : Str → Option Value) : Prop where
  len : mg "len" = none
  range : mg "range" = none
  abs : mg "abs" = none
  sum : mg "sum" = none
  sorted : mg "sorted" = none
  isinstance : mg "isinstance" = none
  zip : mg "zip" = none
  enumerate : mg "enumerate" = none
  reversed : mg "reversed" = none
  int' : mg "int" = none
  str' : mg "str" = none
  list' : mg "list" = none
  tuple' : mg "tuple" = none
  bool' : mg "bool" = none
  all' : mg "all" = none
  any' : mg "any" = none
  ValueError : mg "ValueError" = none
/-- the module's name x is the value v -/
def Glo (mg : Str → Option Value) (x : Str) (v : V) : Prop := ∃ u, mg x = some u ∧ RelV v u
/-- a def of the text stands where its name says -/
structure Src (K : PySem.W.Frag) (mg : Str → Option Value) (x : Str) (st : Stmt) (ps : List Str) : Prop where
  ex : ∃ f fd, Fun K x x st f fd ∧ mg x = some (.ref f) ∧ Binds K fd ps []
/-- the def x keeps the promise sp -/
structure Def (P : Program) (w : World) (K : PySem.W.Frag) (mg : Str → Option Value) (base : Heap) (CX : CXT) (k : Nat) (x : Str) (ps : List Str) (sp : Sp) : Prop where
  ex : ∃ f fd, mg x = some (.ref f) ∧ PySem.W.keepIn K (.ref f) = true ∧ Binds K fd ps [] ∧ FnOk P w K mg base CX k f fd ps sp
section
variable {P : Program} {w : World} {K : PySem.W.Frag} {mg : Str → Option Value} {base : Heap} {CX : CXT} {x : Str} {st : Stmt} {N ps : List Str} {k : Nat} {sp : Sp}
theorem Def.mono {j : Nat} (D : Def P w K mg base CX j x ps sp) (h : j ≤ k) : Def P w K mg base CX k x ps sp := by
  obtain ⟨f, fd, h1, h2, h3, h4⟩ := D.ex
  exact ⟨f, fd, h1, h2, h3, h4.mono h⟩
theorem Def.imp {sp' : Sp} (D : Def P w K mg base CX k x ps sp) (h : ∀ vs H Q E, sp' vs H Q E → sp vs H Q E) : Def P w K mg base CX k x ps sp' := by
  obtain ⟨f, fd, h1, h2, h3, h4⟩ := D.ex
  exact ⟨f, fd, h1, h2, h3, h4.imp h⟩
theorem Src.ok (F : Src K mg x st ps) (S : FnScope N ps (defScope st)) (len : ∀ vs H Q E, sp vs H Q E → vs.length = ps.length)
    (hbody : ∀ (f : Addr) (cdv : Value) (A : Around) (outer : List Env) (s : Shared) (H : Hp) (vs : List V) (Q : VK) (E : XK), Room k (A.deeper (envOfC x (defScope st) s.heap.objs.size f cdv)) → sp vs H Q E →
      ∃ t, PSs (cxOf CX0 P w K mg base N x (defScope st) f cdv A outer s H E).nox (defBody st) t ∧ t { nx := fun _ H' => Q .non H', rt := Q } (start N vs) H) : Def P w K mg base CX0 (k + 1) x ps sp := by
  obtain ⟨f, fd, h1, h2, h3⟩ := F.ex
  exact ⟨f, fd, h2, h1.kp, h3, h1.ok S len (hbody f)⟩
theorem Src.okX (F : Src K mg x st ps) (S : FnScope N ps (defScope st)) (len : ∀ vs H Q E, sp vs H Q E → vs.length = ps.length)
    (hbody : ∀ (f : Addr) (cdv : Value) (A : Around) (outer : List Env) (s : Shared) (H : Hp) (vs : List V) (Q : VK) (E : XK), Room k (A.deeper (envOfC x (defScope st) s.heap.objs.size f cdv)) → sp vs H Q E →
      ∃ t, PSs (cxOf (L2.CX P w) P w K mg base N x (defScope st) f cdv A outer s H E) (defBody st) t ∧ t { nx := fun _ H' => Q .non H', rt := Q } (start N vs) H) : Def P w K mg base (L2.CX P w) (k + 1) x ps sp := by
  obtain ⟨f, fd, h1, h2, h3⟩ := F.ex
  exact ⟨f, fd, h2, h1.kp, h3, h1.okX S len (hbody f)⟩
end
section
variable {X : Cx} {CX : CXT} {k : Nat} {ps : List Str} {sp : Sp} {x : Str} {p pos : Pos} {e : Expr} {es : List Expr} {t : TA}
theorem pe_def {E : XK} (D : Def X.prog X.w X.K X.mg X.base CX k x ps sp) (hr : Room k X.A) (hx : Passes CX X E) (ha : PA X (e :: es) t) (hg : Gl X x := by rfl)
    (hdb : (x == ("__debug__" : Str)) = false := by decide) (he : starEach (e :: es) X.env = (false, eval e X.env) :: starEach es X.env := by rfl) (hpl : (backTo pos (starEach es X.env)).any (·.1) = false := by rfl) :
    PE X (.Call (.Name x p) (e :: es) [] pos) (tCall sp [] E t) := by
  obtain ⟨f, fd, h1, h2, h3, h4⟩ := D.ex
  exact pe_call h4 hr hg h1 h2 h3 .nil hx ha hdb he hpl
theorem pe_def0 {E : XK} (D : Def X.prog X.w X.K X.mg X.base CX k x ps sp) (hr : Room k X.A) (hx : Passes CX X E) (hg : Gl X x := by rfl)
    (hdb : (x == ("__debug__" : Str)) = false := by decide) : PE X (.Call (.Name x p) [] [] pos) (tCall sp [] E tNil) := by
  obtain ⟨f, fd, h1, h2, h3, h4⟩ := D.ex
  exact pe_call0 h4 hr hg h1 h2 h3 .nil hx hdb
theorem pe_defS {E : St → XK} (D : Def X.prog X.w X.K X.mg X.base CX k x ps sp) (hr : Room k X.A) (hx : ∀ σ, PassesAt CX X σ (E σ)) (ha : PA X (e :: es) t) (hg : Gl X x := by rfl)
    (hdb : (x == ("__debug__" : Str)) = false := by decide) (he : starEach (e :: es) X.env = (false, eval e X.env) :: starEach es X.env := by rfl) (hpl : (backTo pos (starEach es X.env)).any (·.1) = false := by rfl) :
    PE X (.Call (.Name x p) (e :: es) [] pos) (tCallS sp E t) := by
  obtain ⟨f, fd, h1, h2, h3, h4⟩ := D.ex
  exact pe_callS h4 hr hg h1 h2 h3 hx ha hdb he hpl
theorem pe_glo {v : V} (h : Glo X.mg x v) (hg : Gl X x := by rfl) (hd : (x == ("__debug__" : Str)) = false := by decide) : PE X (.Name x p) (tC v) := by
  obtain ⟨u, h1, h2⟩ := h
  exact pe_glob hg h1 h2 hd
end
/-! the rules that speak of the written part, with its letter told -/
section
variable {X : Cx} {K : PySem.W.Frag}
def rLenQ (K : PySem.W.Frag) : List V → Hp → VK → Prop := fun xs H Q => ∃ p ys, xs = [.ref p] ∧ (SqL K H p ys ∨ SqT K H p ys) ∧ Q (.int ys.length) H
def rListQ (K : PySem.W.Frag) : List V → Hp → VK → Prop := fun xs H Q => ∃ p ys, xs = [.ref p] ∧ (SqL K H p ys ∨ SqT K H p ys) ∧ ∀ l, H l = none → Q (.ref l) (upd H l (.lst ys))
def rTupQ (K : PySem.W.Frag) : List V → Hp → VK → Prop := fun xs H Q => ∃ p ys, xs = [.ref p] ∧ ((SqL K H p ys ∧ ∀ l, H l = none → Q (.ref l) (upd H l (.tup ys))) ∨ (SqT K H p ys ∧ Q (.ref p) H))
theorem kix_list (h : X.K = K := by rfl) : IxR X (rIxL K) := h ▸ ix_list
theorem kix_tup (h : X.K = K := by rfl) : IxR X (rIxT K) := h ▸ ix_tup
theorem kix_seq (h : X.K = K := by rfl) : IxR X (rIx K) := h ▸ ix_seq
theorem ksl_list (h : X.K = K := by rfl) : SlR X (rSlL K) := h ▸ sl_list
theorem ksl_tup (h : X.K = K := by rfl) : SlR X (rSlT K) := h ▸ sl_tup
theorem kop_in (h : X.K = K := by rfl) : OpR X (compareOp .In) (rIn K false) := h ▸ op_in_seq
theorem kop_notIn (h : X.K = K := by rfl) : OpR X (compareOp .NotIn) (rIn K true) := h ▸ op_notIn_seq
theorem kop_eqD (hu : X.A.units + 64 < cLine) (h : X.K = K := by rfl) : OpR X (compareOp .Eq) (rEqD K) := h ▸ op_eqD hu
theorem kop_neD (hu : X.A.units + 64 < cLine) (h : X.K = K := by rfl) : OpR X (compareOp .NotEq) (rNeD K) := h ▸ op_neD hu
theorem kop_catT (h : X.K = K := by rfl) : OpR X (binaryOp .Add) (rCatT K) := h ▸ op_catT
theorem kcall_len (h : X.K = K := by rfl) : CallR X (.builtin "len") (rLenQ K) := h ▸ call_len_seq
theorem kcall_list (h : X.K = K := by rfl) : CallR X (.type "list") (rListQ K) := h ▸ call_list_of
theorem kcall_tuple (h : X.K = K := by rfl) : CallR X (.type "tuple") (rTupQ K) := h ▸ call_tuple_of
theorem kcr_sum (hc : X.calm = true) (h : X.K = K := by rfl) : CallR X (.builtin "sum") (rSum K) := h ▸ cr_sum hc
theorem kcr_any (hc : X.calm = true) (h : X.K = K := by rfl) : CallR X (.builtin "any") (rAny K) := h ▸ cr_any hc
theorem kcr_all (hc : X.calm = true) (h : X.K = K := by rfl) : CallR X (.builtin "all") (rAll K) := h ▸ cr_all hc
theorem kcall_isi (h : X.K = K := by rfl) : CallR X (.builtin "isinstance") (rIsi K) := h ▸ call_isi
theorem kpi_list {tg l : Expr} {tl : TE} (hl : PE X l tl) (h : X.K = K := by rfl) : PI X tg l (iList K tl) := h ▸ pi_list hl
theorem kpi_tup {tg l : Expr} {tl : TE} (hl : PE X l tl) (h : X.K = K := by rfl) : PI X tg l (iTup K tl) := h ▸ pi_tup hl
theorem kpe_fld {e : Expr} {f : Str} {pos : Pos} {ta : TE} (he : PE X e ta) (hb : attributeBase e f X.env (eval e X.env) = eval e X.env := by rfl) (h : X.K = K := by rfl) : PE X (.Attribute e f pos) (tFld K ta f) := h ▸ pe_fld he hb
end
/-- a comprehension without an if; with one -/
theorem yes_if {σ : St} {H : Hp} {A B : Hp → Prop} (h : A H) : tYes σ H (fun b H3 => if b = true then A H3 else B H3) := by
  show (if true = true then A H else B H)
  rw [if_pos rfl]
  exact h
/-! ### heaps -/
theorem same_upd {H : Hp} {p : Addr} {o : HO} (h : H p = none) : Same H (upd H p o) := fun b x e => by
  rw [upd_ne (ne_of_none e h)]
  exact e
theorem upd_twice {H : Hp} {b : Addr} {o o' : HO} : upd (upd H b o) b o' = upd H b o' := by
  funext a
  by_cases ha : a = b
  · rw [ha, upd_same, upd_same]
  · rw [upd_ne ha, upd_ne ha, upd_ne ha]
theorem upd_self' {H : Hp} {b : Addr} {o : HO} (h : H b = some o) : upd H b o = H := by
  funext a
  by_cases ha : a = b
  · rw [ha, upd_same, h]
  · rw [upd_ne ha]
/-- all that was tracked is as it was, but for what stands at b -/
def SameB (b : Addr) (H H' : Hp) : Prop := ∀ a o, a ≠ b → H a = some o → H' a = some o
theorem SameB.refl (b : Addr) (H : Hp) : SameB b H H := fun _ _ _ h => h
theorem SameB.trans {b : Addr} {H H1 H2 : Hp} (x : SameB b H H1) (y : SameB b H1 H2) : SameB b H H2 := fun a o n h => y a o n (x a o n h)
theorem Same.b {b : Addr} {H H' : Hp} (h : Same H H') : SameB b H H' := fun a o _ e => h a o e
theorem SameB.upd {b : Addr} {H H' : Hp} {o : HO} (h : SameB b H H') : SameB b H (upd H' b o) := fun a u n e => by
  rw [upd_ne n]
  exact h a u n e
theorem SameB.new {b p : Addr} {H H' : Hp} {o : HO} (h : SameB b H H') (n : H' p = none) : SameB b H (L2.upd H' p o) := fun a u hn e => by
  have := h a u hn e
  rw [upd_ne (ne_of_none this n)]
  exact this
/-- an object that H does not know may change -/
theorem SameB.mut {b p : Addr} {H H' : Hp} {o : HO} (h : SameB b H H') (n : H p = none) : SameB b H (L2.upd H' p o) := fun a u hn e => by
  rw [upd_ne (ne_of_none e n)]
  exact h a u hn e
theorem SameB.free {b l : Addr} {H H' : Hp} (e : SameB b H H') (hb : l ≠ b) (h : H' l = none) : H l = none := by
  cases q : H l with
  | none => rfl
  | some o =>
    rw [e l o hb q] at h
    cases h
theorem SameB.seq {K : PySem.W.Frag} {b : Addr} {H H' : Hp} {a : Addr} {xs : List V} (e : SameB b H H') (n : a ≠ b) (h : SqL K H a xs) : SqL K H' a xs := by
  rcases h with (h | ⟨o, h⟩) | h
  · exact .inl (.inl (e _ _ n h))
  · exact .inl (.inr ⟨o, e _ _ n h⟩)
  · exact .inr h
/-- an error of the class at C with these fields is what E wants, whatever was made meanwhile -/
def Rais (E : XK) (H : Hp) (C : Addr) (fs : List (Str × V)) : Prop := ∀ H' d, Same H H' → H d = none → H' d = some (.xd fs) → E (.ref C) (some d) H'
theorem Rais.go {E : XK} {H H' : Hp} {C d : Addr} {fs : List (Str × V)} (h : Rais E H C fs) (sm : Same H H') (n : H' d = none) : E (.ref C) (some d) (upd H' d (.xd fs)) :=
  h _ d (sm.trans (same_upd n)) (sm.free n) upd_same
/-- the law's box of draws stands at b, its script at l -/
structure Box (H : Hp) (b l : Addr) : Prop where
  ex : ∃ (ns : List Int) (i c r : Int), H b = some (.lst [.int i, .int c, .int r, .ref l]) ∧ H l = some (.lst (ns.map V.int)) ∧ 0 ≤ i ∧ l ≠ b
theorem Box.keep {H H' : Hp} {b l : Addr} (h : Box H b l) (e : Same H H') : Box H' b l := by
  obtain ⟨ns, i, c, r, h1, h2, h3, h4⟩ := h.ex
  exact ⟨ns, i, c, r, e _ _ h1, e _ _ h2, h3, h4⟩
theorem Box.neb {H : Hp} {b l p : Addr} (h : Box H b l) (n : H p = none) : p ≠ b := fun e => by
  obtain ⟨ns, i, c, r, h1, h2, h3, h4⟩ := h.ex
  rw [e, h1] at n
  cases n
theorem Box.nel {H : Hp} {b l p : Addr} (h : Box H b l) (n : H p = none) : p ≠ l := fun e => by
  obtain ⟨ns, i, c, r, h1, h2, h3, h4⟩ := h.ex
  rw [e, h2] at n
  cases n
theorem Box.mut {H : Hp} {b l p : Addr} {o : HO} (h : Box H b l) (nb : p ≠ b) (nl : p ≠ l) : Box (upd H p o) b l := by
  obtain ⟨ns, i, c, r, h1, h2, h3, h4⟩ := h.ex
  exact ⟨ns, i, c, r, by rw [upd_ne (Ne.symm nb)]; exact h1, by rw [upd_ne (Ne.symm nl)]; exact h2, h3, h4⟩
/-- from H to H' only draws were taken and new objects made -/
structure Bx (b l : Addr) (H H' : Hp) : Prop where
  sm : SameB b H H'
  b0 : Box H b l
  b1 : Box H' b l
theorem Box.bx {H : Hp} {b l : Addr} (h : Box H b l) : Bx b l H H := ⟨SameB.refl b H, h, h⟩
theorem Bx.trans {b l : Addr} {H H1 H2 : Hp} (x : Bx b l H H1) (y : Bx b l H1 H2) : Bx b l H H2 := ⟨x.sm.trans y.sm, x.b0, y.b1⟩
theorem Bx.same {b l : Addr} {H H1 H2 : Hp} (x : Bx b l H H1) (y : Same H1 H2) : Bx b l H H2 := ⟨x.sm.trans y.b, x.b0, x.b1.keep y⟩
theorem Bx.new {b l p : Addr} {H H' : Hp} {o : HO} (x : Bx b l H H') (n : H' p = none) : Bx b l H (upd H' p o) := x.same (same_upd n)
theorem Bx.mut {b l p : Addr} {H H' : Hp} {o : HO} (x : Bx b l H H') (n : H p = none) : Bx b l H (upd H' p o) := ⟨x.sm.mut n, x.b0, x.b1.mut (x.b0.neb n) (x.b0.nel n)⟩
theorem Bx.free {b l p : Addr} {H H' : Hp} (x : Bx b l H H') (n : H' p = none) : H p = none := x.sm.free (x.b1.neb n) n
theorem Bx.at {b l a : Addr} {H H' : Hp} {o : HO} (x : Bx b l H H') (h : H a = some o) (n : a ≠ b) : H' a = some o := x.sm a o n h
theorem Bx.seq {K : PySem.W.Frag} {b l : Addr} {H H' : Hp} {a : Addr} {xs : List V} (x : Bx b l H H') (n : a ≠ b) (h : SqL K H a xs) : SqL K H' a xs := x.sm.seq n h
/-- _law_next(box, many) -/
def spNext : Sp := fun vs H Q _ => ∃ (b l : Addr) (many : Int), vs = [.ref b, .int many] ∧ 0 < many ∧ many ≤ 10 ^ 40 ∧ Box H b l ∧ ∀ (n : Int) (H' : Hp), 0 ≤ n → n < many → Bx b l H H' → Q (.int n) H'
/-- _law_box(script) -/
def spBox (K : PySem.W.Frag) : Sp := fun vs H Q _ => ∃ (a : Addr) (ns : List Int), vs = [.ref a] ∧ SqL K H a (ns.map V.int) ∧ ns.length ≤ 63 ∧ ∀ (b l : Addr) (H' : Hp), H b = none → Same H H' → Box H' b l → Q (.ref b) H'
/-! ### plain data: no bools, no dicts -/
/-- a text of ASCII signs -/
def Asc (z : Str) : Prop := ∀ c ∈ z.cps.toList, c < 128
theorem Asc.ok {z : Str} (h : Asc z) : PyData.strOk z = true := by
  unfold PyData.strOk
  rw [← Array.all_toList, List.all_eq_true]
  intro c hc
  have := h c hc
  exact decide_eq_true (by omega)
theorem Asc.app {x y : Str} (hx : Asc x) (hy : Asc y) : Asc (x ++ y) := by
  intro c hc
  rw [Str.cps_append, Array.toList_append] at hc
  rcases List.mem_append.mp hc with h | h
  · exact hx c h
  · exact hy c h
theorem Asc.one {c : Nat} (h : c < 128) : Asc ⟨#[c]⟩ := by
  intro d hd
  have : d = c := by simpa using hd
  omega
theorem Asc.cut {z : Str} (h : Asc z) (lo hi : Option Int) : Asc (cutS z lo hi) := by
  intro c hc
  unfold cutS at hc
  exact h c (List.mem_of_mem_drop (List.mem_of_mem_take (by simpa using hc)))
mutual
def nb : PyData → Bool
  | .none => true
  | .int _ => true
  | .str x => PyData.strOk x
  | .list xs => nbAll xs
  | .tuple xs => nbAll xs
  | .bool _ => false
  | .dict _ => false
def nbAll : List PyData → Bool
  | [] => true
  | x :: xs => nb x && nbAll xs
end
mutual
theorem lay_nb : ∀ d : PyData, nb d = true → PyData.canLay0 d = true
  | .none, _ => by simp only [PyData.canLay0]
  | .int _, _ => by simp only [PyData.canLay0]
  | .str x, h => by simp only [nb] at h; simp only [PyData.canLay0, h]
  | .list xs, h => by simp only [nb] at h; simp only [PyData.canLay0]; exact lay_nbAll xs h
  | .tuple xs, h => by simp only [nb] at h; simp only [PyData.canLay0]; exact lay_nbAll xs h
  | .bool _, h => by simp only [nb] at h; cases h
  | .dict _, h => by simp only [nb] at h; cases h
theorem lay_nbAll : ∀ ds : List PyData, nbAll ds = true → PyData.canLayAll0 ds = true
  | [], _ => by simp only [PyData.canLayAll0]
  | x :: xs, h => by
    simp only [nbAll, Bool.and_eq_true] at h
    simp only [PyData.canLayAll0, lay_nb x h.1, lay_nbAll xs h.2, Bool.and_self]
end
mutual
theorem eqv_nb : ∀ d e : PyData, nb d = true → nb e = true → (PyData.eqv d e = true ↔ d = e)
  | .none, e, _, he => by cases e <;> simp [PyData.eqv]
  | .int i, e, _, he => by cases e <;> simp [PyData.eqv, nb] at he ⊢
  | .str x, e, _, he => by cases e <;> simp [PyData.eqv]
  | .list xs, e, hd, he => by
    cases e with
    | list ys =>
      simp only [nb] at hd he
      simp only [PyData.eqv, eqv_nbAll xs ys hd he, PyData.list.injEq]
    | _ => simp [PyData.eqv]
  | .tuple xs, e, hd, he => by
    cases e with
    | tuple ys =>
      simp only [nb] at hd he
      simp only [PyData.eqv, eqv_nbAll xs ys hd he, PyData.tuple.injEq]
    | _ => simp [PyData.eqv]
  | .bool _, _, h, _ => by simp only [nb] at h; cases h
  | .dict _, _, h, _ => by simp only [nb] at h; cases h
theorem eqv_nbAll : ∀ ds es : List PyData, nbAll ds = true → nbAll es = true → (PyData.eqvAll ds es = true ↔ ds = es)
  | [], [], _, _ => by simp [PyData.eqvAll]
  | [], _ :: _, _, _ => by simp [PyData.eqvAll]
  | _ :: _, [], _, _ => by simp [PyData.eqvAll]
  | x :: xs, y :: ys, hd, he => by
    simp only [nbAll, Bool.and_eq_true] at hd he
    simp only [PyData.eqvAll, Bool.and_eq_true, eqv_nb x y hd.1 he.1, eqv_nbAll xs ys hd.2 he.2, List.cons.injEq]
end
theorem eqv_dec {d e : PyData} (hd : nb d = true) (he : nb e = true) : (PyData.eqv d e = true) = (d = e) := propext (eqv_nb d e hd he)
theorem eqv_self {d : PyData} (hd : nb d = true) : PyData.eqv d d = true := (eqv_nb d d hd hd).mpr rfl
theorem eqv_ne {d e : PyData} (hd : nb d = true) (he : nb e = true) (h : d ≠ e) : PyData.eqv d e = false := by
  cases q : PyData.eqv d e with
  | false => rfl
  | true => exact absurd ((eqv_nb d e hd he).mp q) h
theorem nbAll_of : ∀ {ds : List PyData}, (∀ d ∈ ds, nb d = true) → nbAll ds = true
  | [], _ => rfl
  | d :: ds, h => by
    show (nb d && nbAll ds) = true
    rw [h d (List.mem_cons_self ..), nbAll_of fun x hx => h x (List.mem_cons_of_mem _ hx)]
    rfl
theorem depthAll_le {n : Nat} : ∀ {ds : List PyData}, (∀ d ∈ ds, d.depth ≤ n) → PyData.depthAll ds ≤ n
  | [], _ => by simp [PyData.depthAll]
  | d :: ds, h => by
    simp only [PyData.depthAll]
    exact Nat.max_le.mpr ⟨h d (List.mem_cons_self ..), depthAll_le fun x hx => h x (List.mem_cons_of_mem _ hx)⟩
theorem shaped_of {d : PyData} (h : nb d = true) (hd : d.depth ≤ 64) : SeqAt.shaped d = true := by
  unfold SeqAt.shaped
  rw [lay_nb d h, decide_eq_true hd]
  rfl
/-- a list of texts as data -/
abbrev dStrs (l : List Str) : PyData := .list (l.map .str)
theorem dpall_strs {K : PySem.W.Frag} {H : Hp} : ∀ l : List Str, DpAll K H (l.map V.str) (l.map PyData.str)
  | [] => .nil
  | _ :: l => .cons (.str _) (dpall_strs l)
theorem nb_strs {l : List Str} (h : ∀ z ∈ l, Asc z) : nbAll (l.map PyData.str) = true := nbAll_of fun d hd => by
  obtain ⟨z, hz, rfl⟩ := List.mem_map.mp hd
  show PyData.strOk z = true
  exact (h z hz).ok
theorem depth_strs (l : List Str) : PyData.depthAll (l.map PyData.str) ≤ 0 := depthAll_le fun d hd => by
  obtain ⟨z, hz, rfl⟩ := List.mem_map.mp hd
  simp [PyData.depth]
/-! ### lists of texts -/
theorem inV_strs (n : Str) (ws : List Str) : inV (.str n) (ws.map V.str) = decide (n ∈ ws) := by
  unfold inV
  rw [Bool.eq_iff_iff, List.any_eq_true, decide_eq_true_iff]
  constructor
  · rintro ⟨y, hy, e⟩
    obtain ⟨z, hz, rfl⟩ := List.mem_map.mp hy
    have e : z = n := by simpa [eqV] using e
    exact e ▸ hz
  · intro h
    exact ⟨.str n, List.mem_map_of_mem h, by simp [eqV]⟩
theorem flat_strs (ws : List Str) : (ws.map V.str).all flatV = true := by
  rw [List.all_eq_true]
  intro y hy
  obtain ⟨z, hz, rfl⟩ := List.mem_map.mp hy
  rfl
theorem flat_ints (ws : List Int) : (ws.map V.int).all flatV = true := by
  rw [List.all_eq_true]
  intro y hy
  obtain ⟨z, hz, rfl⟩ := List.mem_map.mp hy
  rfl
/-- a list or a tuple -/
def Sq (K : PySem.W.Frag) (H : Hp) (a : Addr) (xs : List V) : Prop := SqL K H a xs ∨ SqT K H a xs
theorem Same.seqT {K : PySem.W.Frag} {H H' : Hp} {a : Addr} {xs : List V} (e : Same H H') (h : SqT K H a xs) : SqT K H' a xs := by
  rcases h with (h | ⟨o, h⟩) | h
  · exact .inl (.inl (e _ _ h))
  · exact .inl (.inr ⟨o, e _ _ h⟩)
  · exact .inr h
theorem Same.sq {K : PySem.W.Frag} {H H' : Hp} {a : Addr} {xs : List V} (e : Same H H') (h : Sq K H a xs) : Sq K H' a xs := h.elim (fun h => .inl (e.seq h)) (fun h => .inr (e.seqT h))
theorem map_get {α : Type} {f : α → V} {l : List α} {i : Nat} {x : V} (h : (l.map f)[i]? = some x) : ∃ z, l[i]? = some z ∧ x = f z := by
  rw [List.getElem?_map] at h
  cases e : l[i]? with
  | none => rw [e] at h; cases h
  | some z => rw [e] at h; exact ⟨z, rfl, (Option.some.inj h).symm⟩
theorem take_more {α : Type} {l : List α} {i : Nat} {x : α} (h : l[i]? = some x) : l.take (i + 1) = l.take i ++ [x] := by
  rw [List.take_add_one, h]
  rfl
theorem get_mem {α : Type} {l : List α} {i : Nat} {x : α} (h : l[i]? = some x) : x ∈ l := List.mem_of_getElem? h
theorem cutV_take (xs : List V) (n : Nat) : cutV xs none (some (n : Int)) = xs.take n := by
  unfold cutV
  rw [HT.sIx_none, HT.sIx_nat]
  show List.take (min n xs.length - 0) (List.drop 0 xs) = _
  rw [List.drop_zero, Nat.sub_zero, Nat.min_comm]
  by_cases h : n ≤ xs.length
  · rw [Nat.min_eq_right h]
  · rw [Nat.min_eq_left (by omega), List.take_length, List.take_of_length_le (by omega)]
theorem cutV_drop (xs : List V) (n : Nat) : cutV xs (some (n : Int)) none = xs.drop n := by
  unfold cutV
  rw [HT.sIx_none, HT.sIx_nat]
  by_cases h : n ≤ xs.length
  · rw [Nat.min_eq_left h]
    exact List.take_of_length_le (by rw [List.length_drop]; exact Nat.le_refl _)
  · rw [Nat.min_eq_right (by omega), List.drop_length, List.drop_of_length_le (by omega), List.take_nil]
/-! ### data stay as they are -/
section
variable {K : PySem.W.Frag} {H H' : Hp}
mutual
theorem Dp.keep (e : Same H H') : ∀ (d : PyData) (v : V), Dp K H v d → Dp K H' v d
  | .none, _, h => by cases h; exact .non
  | .bool _, _, h => by cases h; exact .bl _
  | .int _, _, h => by cases h; exact .int _
  | .str _, _, h => by cases h; exact .str _
  | .list ds, _, h => by
    cases h with
    | lst hs ha => exact .lst (e.seq hs) (DpAll.keep e ds _ ha)
  | .tuple ds, _, h => by
    cases h with
    | tup hs ha => exact .tup (e.seqT hs) (DpAll.keep e ds _ ha)
  | .dict _, _, h => by cases h
theorem DpAll.keep (e : Same H H') : ∀ (ds : List PyData) (vs : List V), DpAll K H vs ds → DpAll K H' vs ds
  | [], _, h => by cases h; exact .nil
  | d :: ds, _, h => by
    cases h with
    | cons h1 h2 => exact .cons (Dp.keep e d _ h1) (DpAll.keep e ds _ h2)
end
end
/-! ### words -/
/-! what a word is, by its code points -/
def LETTERS : Str := "abcdefghijklmnopqrstuvwxyz"
def DIGITS : Str := "0123456789"
def okc (c : Nat) : Bool := decide (c ∈ LETTERS.cps.toList) || decide (c ∈ DIGITS.cps.toList)
def wd (l : List Nat) : Bool := decide (1 ≤ l.length ∧ l.length ≤ 12) && (decide (l.headD 0 ∈ LETTERS.cps.toList) && l.all okc)
theorem len_cps (z : Str) : z.length = z.cps.toList.length := rfl
theorem all_take {α : Type} {p : α → Bool} {l : List α} {i : Nat} {c : α} (h : l[i]? = some c) : (l.take (i + 1)).map p = (l.take i).map p ++ [p c] := by
  rw [List.take_add_one, h, List.map_append]
  rfl
theorem all_id {α : Type} (p : α → Bool) (l : List α) : (l.map p).all id = l.all p := by
  rw [List.all_map]
  rfl
theorem get_lt {l : List Nat} {n : Int} (h0 : 0 ≤ n) (h1 : n < l.length) (h2 : l.all (fun c => decide (c < 128)) = true) : ∃ c, atI l n = some c ∧ c < 128 := by
  obtain ⟨j, rfl⟩ : ∃ j : Nat, n = j := ⟨n.toNat, by omega⟩
  have hj : j < l.length := by omega
  refine ⟨l[j], atI_nat (List.getElem?_eq_getElem hj), ?_⟩
  rw [List.all_eq_true] at h2
  exact of_decide_eq_true (h2 _ (List.getElem_mem hj))
theorem wd_cons {c : Nat} {r : List Nat} (hc : c ∈ LETTERS.cps.toList) (hr : ∀ d ∈ r, okc d = true) (hl : r.length ≤ 11) : wd (c :: r) = true := by
  unfold wd
  rw [decide_eq_true (show 1 ≤ (c :: r).length ∧ (c :: r).length ≤ 12 by rw [List.length_cons]; omega), Bool.true_and, List.headD_cons, decide_eq_true hc, Bool.true_and, List.all_cons, Bool.and_eq_true]
  refine ⟨?_, List.all_eq_true.mpr hr⟩
  unfold okc
  rw [decide_eq_true hc, Bool.true_or]
theorem wd_inv {l : List Nat} (h : wd l = true) : ∃ c r, l = c :: r ∧ c ∈ LETTERS.cps.toList ∧ (∀ d ∈ l, okc d = true) ∧ l.length ≤ 12 := by
  unfold wd at h
  rw [Bool.and_eq_true, Bool.and_eq_true] at h
  obtain ⟨h1, h2, h3⟩ := h
  have h1 := of_decide_eq_true h1
  have h2 := of_decide_eq_true h2
  cases l with
  | nil => exact absurd h1.1 (by decide)
  | cons c r => exact ⟨c, r, rfl, h2, List.all_eq_true.mp h3, h1.2⟩
theorem okc_lt {c : Nat} (h : okc c = true) : c < 128 := by
  unfold okc at h
  rw [Bool.or_eq_true, decide_eq_true_iff, decide_eq_true_iff] at h
  rcases h with h | h
  · exact of_decide_eq_true (List.all_eq_true.mp (show LETTERS.cps.toList.all (fun c => decide (c < 128)) = true by decide) c h)
  · exact of_decide_eq_true (List.all_eq_true.mp (show DIGITS.cps.toList.all (fun c => decide (c < 128)) = true by decide) c h)
/-- a text that is a word -/
def Wd (z : Str) : Prop := wd z.cps.toList = true
theorem Wd.asc {z : Str} (h : Wd z) : Asc z := fun c hc => by
  obtain ⟨_, _, _, _, ho, _⟩ := wd_inv h
  exact okc_lt (ho c hc)
theorem Wd.len {z : Str} (h : Wd z) : z.length ≤ 12 := by
  obtain ⟨_, _, _, _, _, hl⟩ := wd_inv h
  exact hl
/-! ### thirty spare words -/
def spare (z : Str) (k : Nat) : Str := cutS z none (some 9) ++ "x" ++ (toString (k : Int) : Str)
theorem cut_take (z : Str) (n : Nat) : (cutS z none (some (n : Int))).cps.toList = z.cps.toList.take n := by
  unfold cutS
  rw [HT.sIx_none, HT.sIx_nat]
  show (List.take (min n z.length - 0) (List.drop 0 z.cps.toList)).toArray.toList = _
  rw [List.drop_zero, Nat.sub_zero]
  show List.take (min n z.length) z.cps.toList = _
  rw [len_cps, Nat.min_comm]
  by_cases h : n ≤ z.cps.toList.length
  · rw [Nat.min_eq_right h]
  · rw [Nat.min_eq_left (by omega), List.take_length, List.take_of_length_le (by omega)]
theorem spare_cps (z : Str) (k : Nat) : (spare z k).cps.toList = z.cps.toList.take 9 ++ ([120] ++ (toString (k : Int) : Str).cps.toList) := by
  unfold spare
  rw [Str.cps_append, Array.toList_append, Str.cps_append, Array.toList_append, show (9 : Int) = ((9 : Nat) : Int) from rfl, cut_take, List.append_assoc]
  rfl
theorem digs30 : (List.range 30).all (fun k => decide ((toString (k : Int) : Str).cps.toList.length ≤ 2) && (toString (k : Int) : Str).cps.toList.all fun c => decide (c ∈ DIGITS.cps.toList)) = true := by decide +kernel
theorem digs_inj : (List.range 30).all (fun k => (List.range 30).all fun j => decide ((toString (k : Int) : Str).cps.toList = (toString (j : Int) : Str).cps.toList → k = j)) = true := by decide +kernel
theorem spare_wd {z : Str} (h : Wd z) {k : Nat} (hk : k < 30) : Wd (spare z k) := by
  obtain ⟨c, r, e, hc, ho, hl⟩ := wd_inv h
  have hd := List.all_eq_true.mp digs30 k (List.mem_range.mpr hk)
  rw [Bool.and_eq_true, decide_eq_true_iff, List.all_eq_true] at hd
  show wd (spare z k).cps.toList = true
  rw [spare_cps, e, List.take_succ_cons, List.cons_append]
  refine wd_cons hc (fun d hd' => ?_) ?_
  · rcases List.mem_append.mp hd' with h1 | h1
    · exact ho d (by rw [e]; exact List.mem_cons_of_mem _ (List.mem_of_mem_take h1))
    · rcases List.mem_append.mp h1 with h2 | h2
      · rw [List.mem_singleton.mp h2]
        decide
      · have := of_decide_eq_true (hd.2 d h2)
        unfold okc
        rw [decide_eq_true this, Bool.or_true]
  · rw [List.length_append, List.length_take, List.length_append]
    have := hd.1
    show min 8 r.length + (1 + _) ≤ 11
    omega
theorem str_ext {x y : Str} (h : x.cps.toList = y.cps.toList) : x = y := by
  obtain ⟨⟨a⟩⟩ := x
  obtain ⟨⟨b⟩⟩ := y
  have : a = b := h
  rw [this]
theorem spare_inj {z : Str} {k j : Nat} (hk : k < 30) (hj : j < 30) (h : spare z k = spare z j) : k = j := by
  have e : (spare z k).cps.toList = (spare z j).cps.toList := by rw [h]
  rw [spare_cps, spare_cps] at e
  have e2 := List.append_cancel_left (List.append_cancel_left e)
  have d := List.all_eq_true.mp (List.all_eq_true.mp digs_inj k (List.mem_range.mpr hk)) j (List.mem_range.mpr hj)
  exact of_decide_eq_true d e2
theorem nodup_sub {α : Type} [DecidableEq α] : ∀ {l m : List α}, l.Nodup → (∀ x ∈ l, x ∈ m) → l.length ≤ m.length
  | [], _, _, _ => Nat.zero_le _
  | a :: l, m, hn, hs => by
    obtain ⟨ha, hn⟩ := List.nodup_cons.mp hn
    have h1 : a ∈ m := hs a (List.mem_cons_self ..)
    have h2 : l.length ≤ (m.erase a).length := nodup_sub hn fun x hx => by
      have ne : x ≠ a := fun e => ha (e ▸ hx)
      exact (List.mem_erase_of_ne ne).mpr (hs x (List.mem_cons_of_mem _ hx))
    rw [List.length_erase_of_mem h1] at h2
    have : 0 < m.length := List.length_pos_of_mem h1
    rw [List.length_cons]
    omega
def spares (z : Str) : List Str := (List.range 30).map (spare z)
theorem spares_nodup (z : Str) : (spares z).Nodup := by
  unfold spares
  rw [List.nodup_iff_pairwise_ne, List.pairwise_map]
  refine List.Pairwise.imp_of_mem (R := fun a b => a ≠ b) (fun {a b} ha hb hab e => hab ?_) List.nodup_range
  exact spare_inj (List.mem_range.mp ha) (List.mem_range.mp hb) e
theorem spare_some {z : Str} {ws : List Str} (h : ws.length < 30) : ∃ y r, (spares z).filter (fun o => decide (o ∉ ws)) = y :: r := by
  cases e : (spares z).filter (fun o => decide (o ∉ ws)) with
  | cons y r => exact ⟨y, r, rfl⟩
  | nil =>
    have h1 := List.filter_eq_nil_iff.mp e
    have h2 : (spares z).length ≤ ws.length := nodup_sub (spares_nodup z) fun x hx => by
      have := h1 x hx
      simpa using this
    unfold spares at h2
    rw [List.length_map, List.length_range] at h2
    omega
theorem spares_wd {z y : Str} (h : Wd z) (hy : y ∈ spares z) : Wd y := by
  obtain ⟨k, hk, rfl⟩ := List.mem_map.mp hy
  exact spare_wd h (List.mem_range.mp hk)
/-! ### a list of names -/
/-- the first name at fault: true: not known; false: it occurred before -/
def chk (ks : List Str) : List Str → List Str → Option (Bool × Str)
  | _, [] => none
  | seen, n :: r => if n ∈ ks then (if n ∈ seen then some (false, n) else chk ks (seen ++ [n]) r) else some (true, n)
theorem chk_cons (ks seen : List Str) (n : Str) (r : List Str) : chk ks seen (n :: r) = if n ∈ ks then (if n ∈ seen then some (false, n) else chk ks (seen ++ [n]) r) else some (true, n) := rfl
theorem chk_none {ks : List Str} : ∀ {ws seen : List Str}, chk ks seen ws = none ↔ ws.Nodup ∧ (∀ w ∈ ws, w ∈ ks ∧ w ∉ seen)
  | [], seen => by simp [chk]
  | n :: r, seen => by
    rw [chk_cons]
    by_cases h1 : n ∈ ks
    · rw [if_pos h1]
      by_cases h2 : n ∈ seen
      · rw [if_pos h2]
        constructor
        · intro h; cases h
        · intro h; exact absurd h2 (h.2 n (List.mem_cons_self ..)).2
      · rw [if_neg h2, chk_none, List.nodup_cons]
        constructor
        · rintro ⟨a, b⟩
          refine ⟨⟨fun hn => ?_, a⟩, fun w hw => ?_⟩
          · exact (b n hn).2 (List.mem_append_right _ (List.mem_singleton.mpr rfl))
          · rcases List.mem_cons.mp hw with rfl | hw
            · exact ⟨h1, h2⟩
            · exact ⟨(b w hw).1, fun h => (b w hw).2 (List.mem_append_left _ h)⟩
        · rintro ⟨⟨a, b⟩, c⟩
          refine ⟨b, fun w hw => ⟨(c w (List.mem_cons_of_mem _ hw)).1, fun h => ?_⟩⟩
          rcases List.mem_append.mp h with h | h
          · exact (c w (List.mem_cons_of_mem _ hw)).2 h
          · rw [List.mem_singleton.mp h] at hw
            exact a hw
    · rw [if_neg h1]
      constructor
      · intro h; cases h
      · intro h; exact absurd (h.2 n (List.mem_cons_self ..)).1 h1
theorem chk_mem {ks : List Str} {b : Bool} {n : Str} : ∀ {ws seen : List Str}, chk ks seen ws = some (b, n) → n ∈ ws
  | [], _, h => by cases h
  | m :: r, seen, h => by
    rw [chk_cons] at h
    by_cases h1 : m ∈ ks
    · rw [if_pos h1] at h
      by_cases h2 : m ∈ seen
      · rw [if_pos h2] at h
        cases h
        exact List.mem_cons_self ..
      · rw [if_neg h2] at h
        exact List.mem_cons_of_mem _ (chk_mem h)
    · rw [if_neg h1] at h
      cases h
      exact List.mem_cons_self ..
/-! ### from the written part to the facts above -/
section
variable {P : Program} {K : PySem.W.Frag} {h : Heap} {mg : Str → Option Value}
theorem src_mk {x : Str} {st : Stmt} {ps : List Str} {f : Addr} {oc : Value} {od an : Option Addr} {osl : Array (Option Value)} {kV doc pm cdv ct : Value} (X : K.In h) (G : h.Ns mainGlobals mg)
    (a : PySem.W.nsIn K mainGlobals x = some (some (.ref f))) (l : K.lookup f = some ⟨oc, od, .func (PySem.W.fnOf x x (defArgs st) (defBody st) (defScope st) .none kV doc pm an cdv ct), osl⟩)
    (c : PySem.W.codeIn K cdv x = true) (k : PySem.W.keepIn K (.ref f) = true)
    (hb : ∀ (kV doc pm : Value) (an : Option Addr) (cdv ct : Value) (us : List Value), us.length = ps.length → bindArgs (PySem.W.fnOf x x (defArgs st) (defBody st) (defScope st) .none kV doc pm an cdv ct) ⟨us, []⟩ = pure (ps.zip us)) : Src K mg x st ps :=
  ⟨f, _, fun_mk l c k, PySem.W.mg_of X G a, (fun_mk (st := st) l c k).binds hb⟩
theorem glo_str {x z : Str} {t : Tok} (X : K.In h) (G : h.Ns mainGlobals mg) (a : PySem.W.nsIn K mainGlobals x = some (some (.str z t))) : Glo mg x (.str z) := ⟨_, PySem.W.mg_of X G a, t, rfl⟩
theorem glo_int {x : Str} {i : Int} {t : Tok} (X : K.In h) (G : h.Ns mainGlobals mg) (a : PySem.W.nsIn K mainGlobals x = some (some (.int i t))) : Glo mg x (.int i) := ⟨_, PySem.W.mg_of X G a, t, rfl⟩
theorem glo_ref {x : Str} {a : Addr} (X : K.In h) (G : h.Ns mainGlobals mg) (e : PySem.W.nsIn K mainGlobals x = some (some (.ref a))) : Glo mg x (.ref a) := ⟨_, PySem.W.mg_of X G e, rfl⟩
theorem err_mk {cn qual : Str} {tm : Bool} {C fI : Addr} {fs : List Str} {st : Stmt} {nm q : Str} {N : Addr} {bs bm : List Value} {sn : List Str} {sub : List Value} {ab : Bool} {col : Option Bool} {dd : Option Addr} {m0 m1 m2 m3 m5 : Option Value}
    {oc : Value} {od an : Option Addr} {osl : Array (Option Value)} {kV doc pm ct : Value} {cda cc : Addr} {ccl cl : Value} {cdd cld : Option Addr} {ccs csl : Array (Option Value)} {vs : Array Value} {file : Str} {tf : Tok} {msg : Expr} {p1 p2 p3 p4 p5 : Pos} {fp : List FP} {ar : Arg}
    (X : K.In h) (G : h.Ns mainGlobals mg) (aC : PySem.W.nsIn K mainGlobals cn = some (some (.ref C))) (aS : PySem.W.nsIn K mainGlobals "super" = some none)
    (xL : K.lookup C = some (excClassObj nm q C N bs bm true sn sub ab col dd m0 m1 m2 m3 m5 "ValueError.__new__")) (hbm : PySem.HandSPX.refsVE bm = true)
    (sa : PySem.W.findIn K (.ref C) "__setattr__" = some (some (.builtin "object.__setattr__"))) (ga : PySem.W.findIn K (.ref C) "__getattribute__" = some (some (.builtin "BaseException.__getattribute__"))) (gg : PySem.W.findIn K (.ref C) "__getattr__" = some none)
    (noN : ∀ f ∈ fs, PySem.W.findIn K (.ref C) f = some none)
    (iC : PySem.W.findIn K (.ref C) "__init__" = some (some (.ref fI))) (tI : PySem.W.typeIn K (.ref fI) = some (.type "function")) (kC : PySem.W.keepIn K (.ref C) = true)
    (exC : PySem.W.subIn K (.ref C) (.type "BaseException") = some true) (veC : PySem.W.subIn K (.ref C) (.type "ValueError") = some true) (tyC : PySem.W.typeIn K (.ref C) = some (.type "type")) (hdC : PySem.W.hasDictIn K C = true)
    (sup : PySem.W.ks_superIn K C C "__init__" = some (some (.builtin "ValueError.__init__"))) (mro : PySem.W.mroIn K C (.ref C) = some true) (su : PySem.W.subIn K (.ref C) (.ref C) = some true)
    (ca : PySem.W.findIn K (.ref C) "__class__" = some (some (.builtin "object.__class__"))) (cg : PySem.W.specialIn K (.builtin "object.__class__") "__get__" = some (some (.builtin "getset_descriptor.__get__"))) (ct' : PySem.W.takesIn K (.builtin "object.__class__") = some true)
    (mo : PySem.W.mroIn K C (.type "object") = some true) (opq : PySem.W.nsIn K cStatics "thirdparty.any" = some none)
    (top : (P.main.scope.names.lookup ("super" : Str)).isSome = false)
    (l : K.lookup fI = some ⟨oc, od, .func (PySem.W.ksFn "__init__" qual (defArgs st) (defBody st) (defScope st) .none kV doc pm an (.ref cda) ct cc), osl⟩) (c : PySem.W.codeIn K (.ref cda) qual = true)
    (lc : K.lookup cda = some ⟨ccl, cdd, .fields vs, ccs⟩) (hv2 : vs[2]? = some (.str file tf)) (hfile : ((P.main.file : Str) == file) = true) (lcc : K.lookup cc = some ⟨cl, cld, .cell (some (.ref C)), csl⟩)
    (hbody : defBody st = stS msg p1 p2 p3 p4 p5 :: fp.map stF) (har : ((defArgs st).posonlyargs ++ (defArgs st).args).head? = some ar) (hself : ar.arg = "self") (hfp : fp.map (·.1) = fs) (hpos : (p3.endLine == p4.line) = true)
    (h1 : (defScope st).names.lookup ("super" : Str) = some .globalImplicit) (h2 : (defScope st).names.lookup ("__class__" : Str) = some .free) (h3 : (defScope st).names.lookup ("self" : Str) = some .local) (h4 : ∀ f ∈ fs, (defScope st).names.lookup f = some .local) (h5 : ∀ f ∈ fs, (f == ("__debug__" : Str)) = false) (h6 : ∀ y ∈ (defScope st).names, y.2 ≠ .cell)
    (h7 : (defScope st).kind = .function) (h8 : (defScope st).isGenerator = false) (h9 : (defScope st).isCoroutine = false)
    (hbind : ∀ (kV doc pm : Value) (an : Option Addr) (cda : Addr) (ct : Value) (cc : Addr) (s : Shared) (x : Value) (us : List Value), us.length = fs.length → BindsTo s (PySem.W.ksFn "__init__" qual (defArgs st) (defBody st) (defScope st) .none kV doc pm an (.ref cda) ct cc) ⟨x :: us, []⟩ (("self", x) :: fs.zip us))
    (hlook : ∀ (x : Value) (us : List Value), us.length = fs.length → ((("self" : Str), x) :: fs.zip us).reverse.lookup ("self" : Str) = some x ∧ Paired (fun f u => ((("self" : Str), x) :: fs.zip us).reverse.lookup f = some u) fs us)
    (hmsg : (tm = false ∧ ∃ (z : Str) (i : Nat) (p : Pos), msg = .Constant (.str z) i p) ∨ tm = true ∧ ∃ (z f : Str) (i : Nat) (p p' p'' : Pos), msg = .BinOp (.Constant (.str z) i p) .Add (.Name f p') p'' ∧ z.length ≤ 100 ∧ fs.head? = some f) :
    ErrTxt P K mg tm cn C fI fs where
  cls := ⟨nm, q, N, bs, bm, sn, sub, ab, col, dd, m0, m1, m2, m3, m5, xL, hbm⟩
  sa := sa
  noN := noN
  gC := PySem.W.mg_of X G aC
  ga := ga
  gg := gg
  iC := iC
  tC := tI
  kC := kC
  exC := exC
  veC := veC
  tyC := tyC
  hdC := hdC
  sup := sup
  mro := mro
  sub := su
  ca := ca
  cg := cg
  ct := ct'
  mo := mo
  opq := opq
  msup := PySem.W.mg_none_of X G aS
  top := top
  fn := by
    rw [hbody] at l
    refine ⟨oc, od, qual, defArgs st, defScope st, msg, p1, p2, p3, p4, p5, fp, .none, kV, doc, pm, an, cda, cc, ct, osl, ar, ccl, cl, cdd, cld, ccs, csl, vs, file, tf, l, c, har, hself, lc, hv2, hfile, lcc, hfp, hpos, ⟨h1, h2, h3, h4, h5, h6⟩, ⟨h7, h8, h9⟩, ?_, hlook, hmsg⟩
    intro s x us hl
    have := hbind kV doc pm an cda ct cc s x us hl
    rw [hbody] at this
    exact this
end
end L2

set_option Elab.async false
set_option linter.all false
set_option maxRecDepth 100000
set_option maxHeartbeats 4000000
/-! Methods and new instances of own classes by their names; what is raised is wished at the slots. -/
namespace L2
open PySem PySem.Spec PyProof.Rows PySem.HErr
/-- a method of the text stands in its class -/
structure SrcM (K : PySem.W.Frag) (C : Addr) (m qual : Str) (st : Stmt) (ps : List Str) : Prop where
  ex : ∃ f fd, Fun K m qual st f fd ∧ Meth K C m f ∧ Binds K fd ps []
/-- the method m of the class at C keeps the promise sp -/
structure DefM (P : Program) (w : World) (K : PySem.W.Frag) (mg : Str → Option Value) (base : Heap) (CX : CXT) (k : Nat) (C : Addr) (m : Str) (ps : List Str) (sp : Sp) : Prop where
  ex : ∃ f fd, Meth K C m f ∧ Binds K fd ps [] ∧ FnOk P w K mg base CX k f fd ps sp
/-- __init__ of the class at C stands in it; ds: the values of defaults that are left out -/
structure SrcI (K : PySem.W.Frag) (C : Addr) (qual : Str) (st : Stmt) (ps : List Str) : Prop where
  ex : ∃ f fd, Fun K "__init__" qual st f fd ∧ Mk K C f ∧ Binds K fd ps []
structure DefI (P : Program) (w : World) (K : PySem.W.Frag) (mg : Str → Option Value) (base : Heap) (CX : CXT) (k : Nat) (C : Addr) (ps : List Str) (sp : Sp) : Prop where
  ex : ∃ f fd, Mk K C f ∧ Binds K fd ps [] ∧ FnOk P w K mg base CX k f fd ps sp
section
variable {P : Program} {w : World} {K : PySem.W.Frag} {mg : Str → Option Value} {base : Heap} {CX : CXT} {m qual : Str} {C : Addr} {st : Stmt} {N ps : List Str} {k : Nat} {sp : Sp}
theorem DefM.mono {j : Nat} (D : DefM P w K mg base CX j C m ps sp) (h : j ≤ k) : DefM P w K mg base CX k C m ps sp := by
  obtain ⟨f, fd, h1, h2, h3⟩ := D.ex
  exact ⟨f, fd, h1, h2, h3.mono h⟩
theorem DefI.mono {j : Nat} (D : DefI P w K mg base CX j C ps sp) (h : j ≤ k) : DefI P w K mg base CX k C ps sp := by
  obtain ⟨f, fd, h1, h2, h3⟩ := D.ex
  exact ⟨f, fd, h1, h2, h3.mono h⟩
theorem SrcM.ok (F : SrcM K C m qual st ps) (S : FnScope N ps (defScope st)) (len : ∀ vs H Q E, sp vs H Q E → vs.length = ps.length)
    (hbody : ∀ (f : Addr) (cdv : Value) (A : Around) (outer : List Env) (s : Shared) (H : Hp) (vs : List V) (Q : VK) (E : XK), Room k (A.deeper (envOfC qual (defScope st) s.heap.objs.size f cdv)) → sp vs H Q E →
      ∃ t, PSs (cxOf CX0 P w K mg base N qual (defScope st) f cdv A outer s H E).nox (defBody st) t ∧ t { nx := fun _ H' => Q .non H', rt := Q } (start N vs) H) : DefM P w K mg base CX0 (k + 1) C m ps sp := by
  obtain ⟨f, fd, h1, h2, h3⟩ := F.ex
  exact ⟨f, fd, h2, h3, h1.ok S len (hbody f)⟩
theorem SrcM.okX (F : SrcM K C m qual st ps) (S : FnScope N ps (defScope st)) (len : ∀ vs H Q E, sp vs H Q E → vs.length = ps.length)
    (hbody : ∀ (f : Addr) (cdv : Value) (A : Around) (outer : List Env) (s : Shared) (H : Hp) (vs : List V) (Q : VK) (E : XK), Room k (A.deeper (envOfC qual (defScope st) s.heap.objs.size f cdv)) → sp vs H Q E →
      ∃ t, PSs (cxOf (L2.CX P w) P w K mg base N qual (defScope st) f cdv A outer s H E) (defBody st) t ∧ t { nx := fun _ H' => Q .non H', rt := Q } (start N vs) H) : DefM P w K mg base (L2.CX P w) (k + 1) C m ps sp := by
  obtain ⟨f, fd, h1, h2, h3⟩ := F.ex
  exact ⟨f, fd, h2, h3, h1.okX S len (hbody f)⟩
theorem SrcI.okX (F : SrcI K C qual st ps) (S : FnScope N ps (defScope st)) (len : ∀ vs H Q E, sp vs H Q E → vs.length = ps.length)
    (hbody : ∀ (f : Addr) (cdv : Value) (A : Around) (outer : List Env) (s : Shared) (H : Hp) (vs : List V) (Q : VK) (E : XK), Room k (A.deeper (envOfC qual (defScope st) s.heap.objs.size f cdv)) → sp vs H Q E →
      ∃ t, PSs (cxOf (L2.CX P w) P w K mg base N qual (defScope st) f cdv A outer s H E) (defBody st) t ∧ t { nx := fun _ H' => Q .non H', rt := Q } (start N vs) H) : DefI P w K mg base (L2.CX P w) (k + 1) C ps sp := by
  obtain ⟨f, fd, h1, h2, h3⟩ := F.ex
  exact ⟨f, fd, h2, h3, h1.okX S len (hbody f)⟩
theorem SrcI.ok (F : SrcI K C qual st ps) (S : FnScope N ps (defScope st)) (len : ∀ vs H Q E, sp vs H Q E → vs.length = ps.length)
    (hbody : ∀ (f : Addr) (cdv : Value) (A : Around) (outer : List Env) (s : Shared) (H : Hp) (vs : List V) (Q : VK) (E : XK), Room k (A.deeper (envOfC qual (defScope st) s.heap.objs.size f cdv)) → sp vs H Q E →
      ∃ t, PSs (cxOf CX0 P w K mg base N qual (defScope st) f cdv A outer s H E).nox (defBody st) t ∧ t { nx := fun _ H' => Q .non H', rt := Q } (start N vs) H) : DefI P w K mg base CX0 (k + 1) C ps sp := by
  obtain ⟨f, fd, h1, h2, h3⟩ := F.ex
  exact ⟨f, fd, h2, h3, h1.ok S len (hbody f)⟩
end
theorem passAt0 {X : Cx} (σ : St) : PassesAt CX0 X σ E0 := fun _ _ _ _ _ _ h => h.elim
theorem Passes.at {CX : CXT} {X : Cx} {E : XK} (h : Passes CX X E) (σ : St) : PassesAt CX X σ E := fun pins H s e s' I c => h pins σ H s e s' I c
/-- o.m(..) -/
def tMetD (C : Addr) (m : Str) (sp : Sp) (E : St → XK) (ta : TE) (t : TA) : TE := fun σ H Q => ta σ H fun x H1 => ∃ a dx fs, x = .ref a ∧ H1 a = some (.ins C dx fs) ∧ fs.lookup m = none ∧ t σ H1 fun vs H2 => sp (x :: vs) H2 Q (E σ)
/-- C(..) -/
def tMkD (C : Addr) (sp : Sp) (E : St → XK) (t : TA) : TE := fun σ H Q => t σ H fun vs H1 => ∀ x dx, H1 x = none → H1 dx = none → dx ≠ x →
  sp (.ref x :: vs) (upd (upd H1 dx (.own x)) x (.ins C dx [])) (fun v H2 => v = .non ∧ Q (.ref x) H2) (E σ)
section
variable {X : Cx} {CX : CXT} {k : Nat} {C : Addr} {ps : List Str} {sp : Sp} {E : St → XK} {x m : Str} {p pos apos : Pos} {e o : Expr} {es : List Expr} {ta : TE} {t : TA}
theorem pe_metD {pl : Sem Bool} (D : DefM X.prog X.w X.K X.mg X.base CX k C m ps sp) (c : Cls X.K C) (hr : Room k X.A) (hx : ∀ σ, PassesAt CX X σ (E σ)) (he : PE X o ta) (ha : PA X (e :: es) t)
    (hst : starEach (e :: es) X.env = (false, eval e X.env) :: starEach es X.env := by rfl) (hpl : (backTo pos (starEach es X.env)).any (·.1) = false := by rfl)
    (ht : eval (.Call (.Attribute o m apos) (e :: es) [] pos) X.env = (do
      let ov ← eval o X.env
      standAt apos.atName
      let (f, first) ← holding [ov] (getMethod ov m pl)
      callWith pos f first (backTo pos (starEach (e :: es) X.env)) (backToKw pos (keywordEach [] X.env))) := by rfl) :
    PE X (.Call (.Attribute o m apos) (e :: es) [] pos) (tMetD C m sp E ta t) := by
  obtain ⟨f, fd, hm, hb, F⟩ := D.ex
  refine ⟨fun pins s σ H Q I h => ?_⟩
  refine PySem.W.methodCall_KW (pl := pl) (thn (he.run pins s σ H _ I h) fun u s1 ⟨x, H1, I1, rx, a, dx, fs, ex, ea, l, q⟩ => ?_) ht
  subst ex
  obtain rfl : u = Value.ref a := rx
  refine getmeth_ok I1 ea c hm l ?_
  refine PySem.W.callWith_K (first := [.ref a]) (h₀ := X.base) I.ok.mod.kin hm.kp (thn (ha.run pos pins s1 σ H1 _ I1 q) fun us s2 ⟨vs, H2, I2, r, q2⟩ => ⟨I2.kIn, ?_⟩) hst hpl
  exact run_fnS (us := .ref a :: us) (vs := .ref a :: vs) F hr hb (hx σ) I2 (.cons rfl r) q2
theorem pe_metD0 {pl : Sem Bool} (D : DefM X.prog X.w X.K X.mg X.base CX k C m ps sp) (c : Cls X.K C) (hr : Room k X.A) (hx : ∀ σ, PassesAt CX X σ (E σ)) (he : PE X o ta)
    (ht : eval (.Call (.Attribute o m apos) [] [] pos) X.env = (do
      let ov ← eval o X.env
      standAt apos.atName
      let (f, first) ← holding [ov] (getMethod ov m pl)
      callWith pos f first (backTo pos (starEach [] X.env)) (backToKw pos (keywordEach [] X.env))) := by rfl) :
    PE X (.Call (.Attribute o m apos) [] [] pos) (tMetD C m sp E ta tNil) := by
  obtain ⟨f, fd, hm, hb, F⟩ := D.ex
  refine ⟨fun pins s σ H Q I h => ?_⟩
  refine PySem.W.methodCall_KW (pl := pl) (thn (he.run pins s σ H _ I h) fun u s1 ⟨x, H1, I1, rx, a, dx, fs, ex, ea, l, q⟩ => ?_) ht
  subst ex
  obtain rfl : u = Value.ref a := rx
  refine getmeth_ok I1 ea c hm l ?_
  exact PySem.W.callWith_K0 (first := [.ref a]) I1.kIn hm.kp (run_fnS (us := [.ref a]) (vs := [.ref a]) F hr hb (hx σ) I1 (.cons rfl .nil) q)
theorem pe_mkD (D : DefI X.prog X.w X.K X.mg X.base CX k C ps sp) (hm : X.mg x = some (.ref C)) (hr : Room (k + 1) X.A) (hx : ∀ σ, PassesAt CX X σ (E σ)) (ha : PA X (e :: es) t) (hg : Gl X x := by rfl)
    (hdb : (x == ("__debug__" : Str)) = false := by decide) (he : starEach (e :: es) X.env = (false, eval e X.env) :: starEach es X.env := by rfl) (hpl : (backTo pos (starEach es X.env)).any (·.1) = false := by rfl) :
    PE X (.Call (.Name x p) (e :: es) [] pos) (tMkD C sp E t) := by
  obtain ⟨f, fd, M, hb, F⟩ := D.ex
  refine ⟨fun pins s0 σ H0 Q I0 h0 => ?_⟩
  refine wpAny_Call_Name_kw (ld_glob I0 hg hm ?_ hdb)
  refine PySem.W.callWith_K (h₀ := X.base) I0.ok.mod.kin M.kp (thn (ha.run pos pins s0 σ H0 _ I0 h0) fun us s ⟨vs, H, I, r, h⟩ => ⟨I.kIn, ?_⟩) he hpl
  show wpAny _ _ (call (.ref C) us) _ _ _
  have hq := h (s.heap.objs.size + 1) s.heap.objs.size (I.hok.fresh (Nat.le_succ _)) (I.hok.fresh (Nat.le_refl _)) (Nat.ne_of_lt (Nat.lt_succ_self _))
  have I2 := Inv.made (C := C) I
  have r2 : Vals (V.ref (s.heap.objs.size + 1) :: vs) (Value.ref (s.heap.objs.size + 1) :: us) := .cons rfl r
  have hl : ((Value.ref (s.heap.objs.size + 1) :: us) ++ []).length = ps.length := by
    have e := r2.length
    rw [F.len _ _ _ _ hq] at e
    rw [List.append_nil]
    exact e.symm
  have hbb := hb _ (Value.ref (s.heap.objs.size + 1) :: us) I2.kIn hl
  rw [List.append_nil] at hbb
  refine wpAny_call (make_map (f := f) I.kIn M.makes M.init (beq_iff_eq.mp M.fn) (codeAny_mono (F.run _ X.stack _ _ ⟨Value.ref (s.heap.objs.size + 1) :: us, []⟩ (Value.ref (s.heap.objs.size + 1) :: us) _ _ (E σ) (hr.make C us [])
    (I2.env0.make C us []) hbb r2 hq) fun r s' hq' => ?_))
  cases r with
  | error e => exact hx σ pins _ _ e s' I2 hq'
  | ok fl =>
    cases fl with
    | ret u =>
      obtain ⟨v, H', I3, rv, ev, q3⟩ := I2.after hq'
      subst ev
      exact ⟨rv, ⟨V.ref (s.heap.objs.size + 1), H', I3, rfl, q3⟩⟩
    | next => exact False.elim hq'
    | brk => exact False.elim hq'
    | cont => exact False.elim hq'
theorem kps_fld {K : PySem.W.Frag} {f : Str} {value : Expr} {pos' : Pos} {tv : TE} (ha : PE X o ta) (hv : PE X value tv) (hs : swapsWith value (some (.Attribute o f pos')) pos.line X.env = pure false := by rfl) (hK : X.K = K := by rfl) :
    PS X (.Assign [.Attribute o f pos'] value pos) (sFld K ta tv f) := hK ▸ ps_fld ha hv hs
theorem srcM_mk {K : PySem.W.Frag} {qual : Str} {st : Stmt} {f : Addr} {oc : Value} {od an : Option Addr} {osl : Array (Option Value)} {kV doc pm cdv ct : Value}
    (a : PySem.W.findIn K (.ref C) m = some (some (.ref f))) (i : PySem.W.isFn K (.ref f) = true) (l : K.lookup f = some ⟨oc, od, .func (PySem.W.fnOf m qual (defArgs st) (defBody st) (defScope st) .none kV doc pm an cdv ct), osl⟩)
    (c : PySem.W.codeIn K cdv qual = true) (k : PySem.W.keepIn K (.ref f) = true)
    (hb : ∀ (kV doc pm : Value) (an : Option Addr) (cdv ct : Value) (us : List Value), us.length = ps.length → bindArgs (PySem.W.fnOf m qual (defArgs st) (defBody st) (defScope st) .none kV doc pm an cdv ct) ⟨us, []⟩ = pure (ps.zip us)) : SrcM K C m qual st ps :=
  ⟨f, _, fun_mk l c k, ⟨a, i, k⟩, (fun_mk (st := st) l c k).binds hb⟩
theorem srcI_mk {K : PySem.W.Frag} {qual : Str} {st : Stmt} {f : Addr} {oc : Value} {od an : Option Addr} {osl : Array (Option Value)} {kV doc pm cdv ct : Value}
    (mk : PySem.W.makesIn K C = true) (kc : PySem.W.keepIn K (.ref C) = true)
    (a : PySem.W.findIn K (.ref C) "__init__" = some (some (.ref f))) (i : PySem.W.isFn K (.ref f) = true) (l : K.lookup f = some ⟨oc, od, .func (PySem.W.fnOf "__init__" qual (defArgs st) (defBody st) (defScope st) .none kV doc pm an cdv ct), osl⟩)
    (c : PySem.W.codeIn K cdv qual = true) (k : PySem.W.keepIn K (.ref f) = true)
    (hb : ∀ (kV doc pm : Value) (an : Option Addr) (cdv ct : Value) (us : List Value), us.length = ps.length → bindArgs (PySem.W.fnOf "__init__" qual (defArgs st) (defBody st) (defScope st) .none kV doc pm an cdv ct) ⟨us, []⟩ = pure (ps.zip us)) : SrcI K C qual st ps :=
  ⟨f, _, fun_mk l c k, ⟨mk, a, i, kc⟩, (fun_mk (st := st) l c k).binds hb⟩
end
end L2

set_option Elab.async false
set_option linter.all false
set_option maxRecDepth 100000
set_option maxHeartbeats 4000000
/-! Plans as plain data, how one stands in the heap, and which error is due. -/
namespace L2
open PySem PySem.Spec PyProof.Rows PySem.HErr
/-- an error of a plan -/
inductive PErr where
  | tooMany (kind : Str) (limit : Int)
  | badWord (w : Str)
  | double (n : Str)
  | badNumber (n : Int)
  | empty (n : Str)
  | unknown (n : Str)
def nameErr : Bool × Str → PErr
  | (true, n) => .unknown n
  | (false, n) => .double n
def placesDue : List Str → List (Str × Int) → Option PErr
  | _, [] => none
  | seen, (w, n) :: r => if wd w.cps.toList = true then (if w ∈ seen then some (.double w) else if 0 ≤ n ∧ n ≤ 99 then placesDue (seen ++ [w]) r else some (.badNumber n)) else some (.badWord w)
abbrev SRow := Str × List Str × List Str
def stepDue (places seen : List Str) (s : SRow) : Option PErr :=
  if wd s.1.cps.toList = true then (if s.1 ∈ seen then some (.double s.1) else if s.2.1 = [] then some (.empty s.1) else
    match chk places [] s.2.1 with
    | some x => some (nameErr x)
    | none => (chk places [] s.2.2).map nameErr) else some (.badWord s.1)
def stepsDue (places : List Str) : List Str → List SRow → Option PErr
  | _, [] => none
  | seen, s :: r => match stepDue places seen s with
    | some e => some e
    | none => stepsDue places (seen ++ [s.1]) r
def planDue (prs : List (Str × Int)) (srs : List SRow) : Option PErr :=
  if 12 < prs.length then some (.tooMany "places" 12) else if 16 < srs.length then some (.tooMany "steps" 16) else
    match placesDue [] prs with
    | some e => some e
    | none => stepsDue (prs.map (·.1)) [] srs
theorem placesDue_cons (seen : List Str) (w : Str) (n : Int) (r : List (Str × Int)) : placesDue seen ((w, n) :: r) = if wd w.cps.toList = true then (if w ∈ seen then some (.double w) else if 0 ≤ n ∧ n ≤ 99 then placesDue (seen ++ [w]) r else some (.badNumber n)) else some (.badWord w) := rfl
theorem stepsDue_cons (places seen : List Str) (s : SRow) (r : List SRow) : stepsDue places seen (s :: r) = match stepDue places seen s with
    | some e => some e
    | none => stepsDue places (seen ++ [s.1]) r := rfl
/-- names in the order of the places -/
def inOrd (places ns : List Str) : List Str := places.filter fun p => decide (p ∈ ns)
/-- a plan -/
structure PlanD where
  places : List Str
  begin : List Int
  steps : List SRow
def planOf (prs : List (Str × Int)) (srs : List SRow) : PlanD := ⟨prs.map (·.1), prs.map (·.2), srs.map fun s => (s.1, inOrd (prs.map (·.1)) s.2.1, inOrd (prs.map (·.1)) s.2.2)⟩
def PlanD.names (d : PlanD) : List Str := d.steps.map (·.1)
/-- a dict from words to tuples of words -/
def TabAt (H : Hp) (kvs : List (Key × V)) (rows : List (Str × List Str)) : Prop := Paired (fun (kv : Key × V) r => kv.1 = Sum.inr r.1 ∧ ∃ t, kv.2 = .ref t ∧ H t = some (.tup (r.2.map V.str))) kvs rows
/-- the plan d stands at x -/
structure PlanAt (H : Hp) (C x : Addr) (d : PlanD) : Prop where
  ex : ∃ (dx tp tb td tg ts : Addr) (kt kg : List (Key × V)), H x = some (.ins C dx [("places", .ref tp), ("begin", .ref tb), ("taken", .ref td), ("given", .ref tg), ("steps", .ref ts)]) ∧
    H tp = some (.tup (d.places.map V.str)) ∧ H tb = some (.tup (d.begin.map V.int)) ∧ H td = some (.dK kt) ∧ H tg = some (.dK kg) ∧ H ts = some (.tup (d.names.map V.str)) ∧
    TabAt H kt (d.steps.map fun s => (s.1, s.2.1)) ∧ TabAt H kg (d.steps.map fun s => (s.1, s.2.2))
theorem Paired.imp2 {α β : Type} {R S : α → β → Prop} (h : ∀ a b, R a b → S a b) : ∀ {l : List α} {m : List β}, Paired R l m → Paired S l m
  | _, _, .nil => .nil
  | _, _, .cons x y => .cons (h _ _ x) (Paired.imp2 h y)
theorem TabAt.keep {H H' : Hp} {kvs : List (Key × V)} {rows : List (Str × List Str)} (h : TabAt H kvs rows) (e : ∀ t l, H t = some (.tup l) → H' t = some (.tup l)) : TabAt H' kvs rows :=
  Paired.imp2 (fun _ _ ⟨h1, t, h2, h3⟩ => ⟨h1, t, h2, e t _ h3⟩) h
theorem PlanAt.keep {H H' : Hp} {C x : Addr} {d : PlanD} (h : PlanAt H C x d) (e : Same H H') : PlanAt H' C x d := by
  obtain ⟨dx, tp, tb, td, tg, ts, kt, kg, h1, h2, h3, h4, h5, h6, h7, h8⟩ := h.ex
  exact ⟨dx, tp, tb, td, tg, ts, kt, kg, e _ _ h1, e _ _ h2, e _ _ h3, e _ _ h4, e _ _ h5, e _ _ h6, h7.keep fun _ _ => e _ _, h8.keep fun _ _ => e _ _⟩
/-- rows of places, rows of steps, in the heap -/
def PRows (H : Hp) (a : Addr) (prs : List (Str × Int)) : Prop := ∃ ts : List Addr, H a = some (.lst (ts.map V.ref)) ∧ Paired (fun t (r : Str × Int) => H t = some (.tup [.str r.1, .int r.2])) ts prs
/-- a row of a step at t, its lists other than the one at a -/
def SRowIn (H : Hp) (a t : Addr) (r : SRow) : Prop := ∃ b c, H t = some (.tup [.str r.1, .ref b, .ref c]) ∧ H b = some (.lst (r.2.1.map V.str)) ∧ H c = some (.lst (r.2.2.map V.str)) ∧ b ≠ a ∧ c ≠ a
def SRows (H : Hp) (a : Addr) (srs : List SRow) : Prop := ∃ ts : List Addr, H a = some (.lst (ts.map V.ref)) ∧ Paired (SRowIn H a) ts srs
theorem PRows.keep {H H' : Hp} {a : Addr} {prs : List (Str × Int)} (h : PRows H a prs) (e : Same H H') : PRows H' a prs := by
  obtain ⟨ts, h1, h2⟩ := h
  exact ⟨ts, e _ _ h1, Paired.imp2 (fun _ _ h => e _ _ h) h2⟩
theorem SRows.keep {H H' : Hp} {a : Addr} {srs : List SRow} (h : SRows H a srs) (e : Same H H') : SRows H' a srs := by
  obtain ⟨ts, h1, h2⟩ := h
  exact ⟨ts, e _ _ h1, Paired.imp2 (fun _ _ ⟨b, c, x, y, z, u⟩ => ⟨b, c, e _ _ x, e _ _ y, e _ _ z, u⟩) h2⟩
theorem Paired.get {α β : Type} {R : α → β → Prop} : ∀ {l : List α} {m : List β} {i : Nat} {a : α}, Paired R l m → l[i]? = some a → ∃ b, m[i]? = some b ∧ R a b
  | _, _, _, _, .nil, h => by simp at h
  | _, _, 0, _, .cons x _, h => by cases h; exact ⟨_, rfl, x⟩
  | _, _, i + 1, _, .cons _ y, h => Paired.get (i := i) y h
theorem Paired.len {α β : Type} {R : α → β → Prop} : ∀ {l : List α} {m : List β}, Paired R l m → l.length = m.length
  | _, _, .nil => rfl
  | _, _, .cons _ y => by rw [List.length_cons, List.length_cons, Paired.len y]
theorem Paired.snoc {α β : Type} {R : α → β → Prop} {a : α} {b : β} (h : R a b) : ∀ {l : List α} {m : List β}, Paired R l m → Paired R (l ++ [a]) (m ++ [b])
  | _, _, .nil => .cons h .nil
  | _, _, .cons x y => .cons x (Paired.snoc h y)
/-- the classes of the errors of a plan -/
structure ECs where
  tooMany : Addr
  badWord : Addr
  double : Addr
  badNumber : Addr
  empty : Addr
  unknown : Addr
def PErr.cls (cs : ECs) : PErr → Addr
  | .tooMany _ _ => cs.tooMany
  | .badWord _ => cs.badWord
  | .double _ => cs.double
  | .badNumber _ => cs.badNumber
  | .empty _ => cs.empty
  | .unknown _ => cs.unknown
def PErr.fields : PErr → List (Str × V)
  | .tooMany k l => [("limit", .int l), ("kind", .str k)]
  | .badWord w => [("word", .str w)]
  | .double n => [("name", .str n)]
  | .badNumber n => [("number", .int n)]
  | .empty n => [("name", .str n)]
  | .unknown n => [("name", .str n)]
/-- an error e is what E wants -/
def RaisP (cs : ECs) (E : XK) (H : Hp) (e : PErr) : Prop := Rais E H (e.cls cs) e.fields
/-- the same, but the object at x may have changed -/
def RaisX (cs : ECs) (E : XK) (x : Addr) (H : Hp) (e : PErr) : Prop := ∀ H' d, SameB x H H' → H d = none → H' d = some (.xd e.fields) → E (.ref (e.cls cs)) (some d) H'
theorem RaisX.go {cs : ECs} {E : XK} {x d : Addr} {H H' : Hp} {e : PErr} (h : RaisX cs E x H e) (sm : SameB x H H') (n : H' d = none) (hx : ∃ o, H' x = some o) : E (.ref (e.cls cs)) (some d) (upd H' d (.xd e.fields)) := by
  have hd : d ≠ x := fun q => by
    obtain ⟨o, ho⟩ := hx
    rw [q, ho] at n
    cases n
  exact h _ d (fun a o ha e => by rw [upd_ne (ne_of_none (sm a o ha e) n)]; exact sm a o ha e) (sm.free hd n) upd_same
theorem valV_tab {H : Hp} : ∀ {kvs : List (Key × V)} {rows : List (Str × List Str)}, TabAt H kvs rows → ∀ n : Str,
    (n ∈ rows.map (·.1) → ∃ t l, valV kvs (Sum.inr n) = some (.ref t) ∧ H t = some (.tup (l.map V.str)) ∧ rows.lookup n = some l) ∧ (n ∉ rows.map (·.1) → valV kvs (Sum.inr n) = none)
  | _, _, .nil, n => ⟨(fun h => by cases h), fun _ => rfl⟩
  | kv :: kvs, r :: rows, .cons ⟨h1, t, h2, h3⟩ hr, n => by
    obtain ⟨ih1, ih2⟩ := valV_tab hr n
    by_cases e : r.1 = n
    · refine ⟨fun _ => ⟨t, r.2, ?_, h3, ?_⟩, fun h => absurd (List.mem_cons_self ..) (by rw [← e] at h; exact h)⟩
      · rw [valV_pos (by rw [h1, e]), h2]
      · obtain ⟨r1, r2⟩ := r
        have e : r1 = n := e
        rw [List.lookup_cons, e]
        simp
    · have hk : ¬ kv.1 = Sum.inr n := fun q => by rw [h1] at q; exact e (Sum.inr.inj q)
      refine ⟨fun h => ?_, fun h => ?_⟩
      · rcases List.mem_cons.mp h with h | h
        · exact absurd h.symm e
        · obtain ⟨t', l, a, b, c⟩ := ih1 h
          refine ⟨t', l, by rw [valV_neg hk]; exact a, b, ?_⟩
          obtain ⟨r1, r2⟩ := r
          have hne : (n == r1) = false := by simpa using fun q : n = r1 => e q.symm
          rw [List.lookup_cons, hne]
          exact c
      · rw [valV_neg hk]
        exact ih2 fun q => h (List.mem_cons_of_mem _ q)
/-- [row[0] for row in rows], the heads texts -/
theorem lc_heads {K : PySem.W.Frag} {σ : St} {H : Hp} {j r : Nat} {a : Addr} {ts : List Addr} {ws : List Str} {Q : VK} (ha : H a = some (.lst (ts.map V.ref))) (hp : Paired (fun t z => ∃ rest, H t = some (.tup (.str z :: rest))) ts ws) (hl : ws.length ≤ 1000)
    (hσ : σ[j]? = some (some (.ref a))) (hr : r < σ.length) (q : ∀ (D : Addr) (H' : Hp), H D = none → Same H H' → H' D = some (.lst (ws.map V.str)) → Q (.ref D) H') :
    tLc (iList K (tVar j)) (gName r) tYes (tOp (rIxT K) (tVar r) (tC (.int 0))) [r] σ H Q := by
  refine ⟨_, hσ, a, rfl, ⟨_, SqL.of ha⟩, fun D nD => lc_list (K := K) (a := a) (xs := ts.map V.ref) (fun i H' => Same H H' ∧ H' D = some (.lst ((ws.take i).map V.str))) ⟨same_upd nD, upd_same⟩ (fun i H' _ h' => SqL.of (h'.1 _ _ ha)) ?_ ?_⟩
  · rintro i x H' hi ⟨sm, hD⟩
    obtain ⟨t, ht, rfl⟩ := map_get hi
    obtain ⟨z, hz, rest, hrow⟩ := Paired.get hp ht
    refine ⟨?_, yes_if ?_⟩
    · show ((σ.set r none).set r (some (V.ref t))).set r none = σ.set r none
      rw [List.set_set, List.set_set]
    · have hv : ((σ.set r none).set r (some (V.ref t)))[r]? = some (some (V.ref t)) := by
        rw [List.getElem?_set_self (by rw [List.length_set]; exact hr)]
      refine ⟨_, hv, t, _, _, _, rfl, rfl, SqT.of (sm _ _ hrow), atI_nat (j := 0) rfl, _, hD, ?_, fun b o e => ?_, ?_⟩
      · rw [List.length_map, List.length_take]
        exact small1000 (by omega)
      · rw [upd_ne (ne_of_none e nD)]
        exact sm b o e
      · rw [upd_same, take_more hz, List.map_append]
        rfl
  · rintro H' ⟨sm, hD⟩
    rw [List.length_map, Paired.len hp, List.take_length] at hD
    exact q D H' nD sm hD
theorem PRows.heads {H : Hp} {ts : List Addr} {prs : List (Str × Int)} (h : Paired (fun t (r : Str × Int) => H t = some (.tup [.str r.1, .int r.2])) ts prs) : Paired (fun t z => ∃ rest, H t = some (.tup (.str z :: rest))) ts (prs.map (·.1)) := by
  induction h with
  | nil => exact .nil
  | cons a _ ih => exact .cons ⟨_, a⟩ ih
theorem SRows.heads {H : Hp} {a : Addr} {ts : List Addr} {srs : List SRow} (h : Paired (SRowIn H a) ts srs) : Paired (fun t z => ∃ rest, H t = some (.tup (.str z :: rest))) ts (srs.map (·.1)) := by
  induction h with
  | nil => exact .nil
  | cons a _ ih =>
    obtain ⟨b, c, h1, _⟩ := a
    exact .cons ⟨_, h1⟩ ih
/-- rows without what stands at b -/
theorem PRows.bx {b l : Addr} {H H' : Hp} {a : Addr} {prs : List (Str × Int)} (h : PRows H a prs) (e : Bx b l H H') : PRows H' a prs := by
  obtain ⟨ts, h1, h2⟩ := h
  obtain ⟨ns, i, c, r, hb, _⟩ := e.b0.ex
  have nt : ∀ {t : Addr} {xs : List V}, H t = some (.tup xs) → t ≠ b := fun {t xs} h q => by rw [q, hb] at h; cases h
  have nl : a ≠ b := fun q => by
    rw [q, hb] at h1
    have h1 : [V.int i, V.int c, V.int r, V.ref l] = ts.map V.ref := HO.lst.inj (Option.some.inj h1)
    cases ts with
    | nil => cases h1
    | cons t ts => cases h1
  exact ⟨ts, e.at h1 nl, Paired.imp2 (fun _ _ h => e.at h (nt h)) h2⟩
theorem lst_strs_ne {b l : Addr} {H : Hp} {a : Addr} {ws : List Str} (hb : Box H b l) (h : H a = some (.lst (ws.map V.str))) : a ≠ b := fun q => by
  obtain ⟨ns, i, c, r, hb, _⟩ := hb.ex
  rw [q, hb] at h
  have h1 : [V.int i, V.int c, V.int r, V.ref l] = ws.map V.str := HO.lst.inj (Option.some.inj h)
  cases ws with
  | nil => cases h1
  | cons t ts => cases h1
theorem lst_refs_ne {b l : Addr} {H : Hp} {a : Addr} {ts : List Addr} (hb : Box H b l) (h : H a = some (.lst (ts.map V.ref))) : a ≠ b := fun q => by
  obtain ⟨ns, i, c, r, hb, _⟩ := hb.ex
  rw [q, hb] at h
  have h1 : [V.int i, V.int c, V.int r, V.ref l] = ts.map V.ref := HO.lst.inj (Option.some.inj h)
  cases ts with
  | nil => cases h1
  | cons t ts => cases h1
theorem tup_ne {b l : Addr} {H : Hp} {a : Addr} {xs : List V} (hb : Box H b l) (h : H a = some (.tup xs)) : a ≠ b := fun q => by
  obtain ⟨ns, i, c, r, hb, _⟩ := hb.ex
  rw [q, hb] at h
  cases h
theorem SRows.bx {b l : Addr} {H H' : Hp} {a : Addr} {srs : List SRow} (h : SRows H a srs) (e : Bx b l H H') : SRows H' a srs := by
  obtain ⟨ts, h1, h2⟩ := h
  exact ⟨ts, e.at h1 (lst_refs_ne e.b0 h1), Paired.imp2 (fun _ _ ⟨x, y, h3, h4, h5, u⟩ => ⟨x, y, e.at h3 (tup_ne e.b0 h3), e.at h4 (lst_strs_ne e.b0 h4), e.at h5 (lst_strs_ne e.b0 h5), u⟩) h2⟩
theorem PRows.snoc {H : Hp} {a t : Addr} {ts : List Addr} {prs : List (Str × Int)} {r : Str × Int} (h1 : H a = some (.lst (ts.map V.ref))) (h2 : Paired (fun t (r : Str × Int) => H t = some (.tup [.str r.1, .int r.2])) ts prs) (ht : H t = some (.tup [.str r.1, .int r.2])) :
    PRows (upd H a (.lst (ts.map V.ref ++ [V.ref t]))) a (prs ++ [r]) := by
  have ne : ∀ {c : Addr} {xs : List V}, H c = some (.tup xs) → c ≠ a := fun {c xs} e q => by rw [q, h1] at e; cases e
  refine ⟨ts ++ [t], ?_, Paired.snoc ?_ (Paired.imp2 (fun c r e => ?_) h2)⟩
  · rw [upd_same, List.map_append]
    rfl
  · rw [upd_ne (ne ht)]
    exact ht
  · rw [upd_ne (ne e)]
    exact e
theorem SRows.snoc {H : Hp} {a t : Addr} {ts : List Addr} {srs : List SRow} {r : SRow} (h1 : H a = some (.lst (ts.map V.ref))) (h2 : Paired (SRowIn H a) ts srs) (ht : SRowIn H a t r) : SRows (upd H a (.lst (ts.map V.ref ++ [V.ref t]))) a (srs ++ [r]) := by
  have key : ∀ {t : Addr} {r : SRow} {o : HO}, SRowIn H a t r → SRowIn (upd H a o) a t r := fun {t r o} ⟨b, c, x, y, z, u1, u2⟩ =>
    ⟨b, c, by rw [upd_ne (fun q => by rw [q, h1] at x; cases x)]; exact x, by rw [upd_ne u1]; exact y, by rw [upd_ne u2]; exact z, u1, u2⟩
  refine ⟨ts ++ [t], ?_, Paired.snoc (key ht) (Paired.imp2 (fun _ _ e => key e) h2)⟩
  rw [upd_same, List.map_append]
  rfl
end L2

set_option Elab.async false
set_option linter.all false
set_option maxRecDepth 100000
set_option maxHeartbeats 4000000
/-! Rows of plans as the laws draw them: what is kept, and that no error is due. -/
namespace L2
open PySem PySem.Spec PyProof.Rows PySem.HErr
theorem Same.mut {p : Addr} {H H' : Hp} {o : HO} (h : Same H H') (n : H p = none) : Same H (upd H' p o) := fun a u e => by
  rw [upd_ne (ne_of_none e n)]
  exact h a u e
theorem Bx.strs {b l : Addr} {H H' : Hp} {a : Addr} {ws : List Str} (x : Bx b l H H') (h : H a = some (.lst (ws.map V.str))) : H' a = some (.lst (ws.map V.str)) := x.at h (lst_strs_ne x.b0 h)
theorem Bx.refs {b l : Addr} {H H' : Hp} {a : Addr} {ts : List Addr} (x : Bx b l H H') (h : H a = some (.lst (ts.map V.ref))) : H' a = some (.lst (ts.map V.ref)) := x.at h (lst_refs_ne x.b0 h)
theorem Bx.tup {b l : Addr} {H H' : Hp} {a : Addr} {xs : List V} (x : Bx b l H H') (h : H a = some (.tup xs)) : H' a = some (.tup xs) := x.at h (tup_ne x.b0 h)
/-! steps at the level of statements -/
theorem go_name {i : Nat} {v : V} {σ : L2.St} {H : Hp} {Q : L2.St → Hp → Prop} (h : Q (σ.set i (some v)) H) : gName i v σ H Q := h
theorem go_asg {te : TE} {g : TG} {u : TS} {D : Ends} {σ : L2.St} {H : Hp} (h : te σ H fun x H1 => g x σ H1 (u D)) : tSeq (tAsg te g) u D σ H := h
theorem go_op {R : R2} {ta tb : TE} {σ : L2.St} {H : Hp} {Q : VK} (h : ta σ H fun x H1 => tb σ H1 fun y H2 => R x y H2 Q) : tOp R ta tb σ H Q := h
theorem go_seq {t u : TS} {D : Ends} {σ : L2.St} {H : Hp} (h : t { D with nx := u D } σ H) : tSeq t u D σ H := h
theorem go_if {c : TT} {t u : TS} {D : Ends} {σ : L2.St} {H : Hp} (h : c σ H fun b H1 => if b = true then t D σ H1 else u D σ H1) : tIfS c t u D σ H := h
theorem go_test {t : TE} {σ : L2.St} {H : Hp} {Q : Bool → Hp → Prop} (h : t σ H fun x H' => ∃ k, x = .bl k ∧ Q k H') : tTest t σ H Q := h
theorem go_ret {te : TE} {D : Ends} {σ : L2.St} {H : Hp} (h : te σ H D.rt) : tRet te D σ H := h
theorem go_cons {ta : TE} {tr : TA} {σ : L2.St} {H : Hp} {Q : List V → Hp → Prop} (h : ta σ H fun x H1 => tr σ H1 fun xs H2 => Q (x :: xs) H2) : tCons ta tr σ H Q := h
theorem go_lst {t : TA} {σ : L2.St} {H : Hp} {Q : VK} (h : t σ H fun xs H1 => xs.length ≤ sizeLine ∧ ∀ p, H1 p = none → Q (.ref p) (upd H1 p (.lst xs))) : tLst t σ H Q := h
theorem go_tup {t : TA} {σ : L2.St} {H : Hp} {Q : VK} (h : t σ H fun xs H1 => xs.length ≤ sizeLine ∧ ∀ p, H1 p = none → Q (.ref p) (upd H1 p (.tup xs))) : tTup t σ H Q := h
theorem go_asg1 {te : TE} {g : TG} {D : Ends} {σ : L2.St} {H : Hp} (h : te σ H fun x H1 => g x σ H1 D.nx) : tAsg te g D σ H := h
theorem go_next {D : Ends} {σ : L2.St} {H : Hp} (h : D.nx σ H) : tNext D σ H := h
theorem Paired.take {α β : Type} {R : α → β → Prop} : ∀ {l : List α} {m : List β} (i : Nat), Paired R l m → Paired R (l.take i) (m.take i)
  | _, _, 0, _ => .nil
  | _, _, _ + 1, .nil => .nil
  | _, _, i + 1, .cons x y => .cons x (Paired.take i y)
theorem Paired.drop {α β : Type} {R : α → β → Prop} : ∀ {l : List α} {m : List β} (i : Nat), Paired R l m → Paired R (l.drop i) (m.drop i)
  | _, _, 0, h => h
  | _, _, _ + 1, .nil => .nil
  | _, _, i + 1, .cons _ y => Paired.drop i y
theorem Paired.app {α β : Type} {R : α → β → Prop} : ∀ {l : List α} {m : List β} {l' : List α} {m' : List β}, Paired R l m → Paired R l' m' → Paired R (l ++ l') (m ++ m')
  | _, _, _, _, .nil, h => h
  | _, _, _, _, .cons x y, h => .cons x (Paired.app y h)
theorem Paired.get' {α β : Type} {R : α → β → Prop} : ∀ {l : List α} {m : List β} {i : Nat} {b : β}, Paired R l m → m[i]? = some b → ∃ a, l[i]? = some a ∧ R a b
  | _, _, _, _, .nil, h => by simp at h
  | _, _, 0, _, .cons x _, h => by cases h; exact ⟨_, rfl, x⟩
  | _, _, i + 1, _, .cons _ y, h => Paired.get' (i := i) y h
theorem drop_at {α : Type} {l : List α} {i : Nat} {n : α} (h : l[i]? = some n) : l.drop i = n :: l.drop (i + 1) := List.drop_eq_getElem?_toList_append.trans (by rw [h]; rfl)
/-- [row[0] for row in e], the heads texts -/
theorem lc_headsE {K : PySem.W.Frag} {te : TE} {σ : L2.St} {H : Hp} {r : Nat} {ts : List Addr} {ws : List Str} {Q : VK} (hp : Paired (fun t z => ∃ rest, H t = some (.tup (.str z :: rest))) ts ws) (hl : ws.length ≤ 1000) (hr : r < σ.length)
    (hte : ∀ F : VK, (∀ a H1, Same H H1 → H1 a = some (.lst (ts.map V.ref)) → F (.ref a) H1) → te σ H F) (q : ∀ (D : Addr) (H' : Hp), Same H H' → H' D = some (.lst (ws.map V.str)) → Q (.ref D) H') :
    tLc (iList K te) (gName r) tYes (tOp (rIxT K) (tVar r) (tC (.int 0))) [r] σ H Q := by
  refine hte _ fun a H1 s1 ha => ?_
  refine ⟨a, rfl, ⟨_, SqL.of ha⟩, fun D nD => lc_list (K := K) (a := a) (xs := ts.map V.ref) (fun i H' => Same H1 H' ∧ H' D = some (.lst ((ws.take i).map V.str))) ⟨same_upd nD, upd_same⟩ (fun i H' _ h' => SqL.of (h'.1 _ _ ha)) ?_ ?_⟩
  · rintro i x H' hi ⟨sm, hD⟩
    obtain ⟨t, ht, rfl⟩ := map_get hi
    obtain ⟨z, hz, rest, hrow⟩ := Paired.get hp ht
    refine ⟨?_, yes_if ?_⟩
    · show ((σ.set r none).set r (some (V.ref t))).set r none = σ.set r none
      rw [List.set_set, List.set_set]
    · have hv : ((σ.set r none).set r (some (V.ref t)))[r]? = some (some (V.ref t)) := by
        rw [List.getElem?_set_self (by rw [List.length_set]; exact hr)]
      refine ⟨_, hv, t, _, _, _, rfl, rfl, SqT.of (sm _ _ (s1 _ _ hrow)), atI_nat (j := 0) rfl, _, hD, ?_, fun b o e => ?_, ?_⟩
      · rw [List.length_map, List.length_take]
        exact small1000 (by omega)
      · rw [upd_ne (ne_of_none e nD)]
        exact sm b o e
      · rw [upd_same, take_more hz, List.map_append]
        rfl
  · rintro H' ⟨sm, hD⟩
    rw [List.length_map, Paired.len hp, List.take_length] at hD
    exact q D H' (s1.trans sm) hD
/-- [f(x) for x in e if p(x)] over a list whose entries are known -/
theorem lc_gen {K : PySem.W.Frag} {te0 te : TE} {tt : TT} {σ : L2.St} {H : Hp} {r : Nat} {α : Type} {enc out : α → V} {ws : List α} {p : α → Bool} {Q : VK} (hl : ws.length ≤ 1000)
    (hit : ∀ F : VK, (∀ a H1, Same H H1 → H1 a = some (.lst (ws.map enc)) → F (.ref a) H1) → te0 σ H F)
    (htt : ∀ z ∈ ws, ∀ (H' : Hp) (Qb : Bool → Hp → Prop), Same H H' → (∀ H'', Same H' H'' → Qb (p z) H'') → tt ((σ.set r none).set r (some (enc z))) H' Qb)
    (hte : ∀ z ∈ ws, p z = true → ∀ (H' : Hp) (Q' : VK), Same H H' → (∀ H'', Same H' H'' → Q' (out z) H'') → te ((σ.set r none).set r (some (enc z))) H' Q')
    (q : ∀ (D : Addr) (H' : Hp), H D = none → Same H H' → H' D = some (.lst ((ws.filter p).map out)) → Q (.ref D) H') :
    tLc (iList K te0) (gName r) tt te [r] σ H Q := by
  refine hit _ fun a H1 s1 ha => ?_
  refine ⟨a, rfl, ⟨_, SqL.of ha⟩, fun D nD => lc_list (K := K) (a := a) (xs := ws.map enc) (fun i H' => Same H1 H' ∧ H' D = some (.lst (((ws.take i).filter p).map out))) ⟨same_upd nD, upd_same⟩ (fun i H' _ h' => SqL.of (h'.1 _ _ ha)) ?_ ?_⟩
  · rintro i x H' hi ⟨sm, hD⟩
    rw [List.getElem?_map] at hi
    obtain ⟨z, hz, rfl⟩ := Option.map_eq_some_iff.mp hi
    have hm := List.mem_of_getElem? hz
    refine ⟨?_, htt z hm H' _ (s1.trans sm) fun H2 s2 => ?_⟩
    · show ((σ.set r none).set r (some (enc z))).set r none = σ.set r none
      rw [List.set_set, List.set_set]
    · have et : (ws.take (i + 1)).filter p = (ws.take i).filter p ++ if p z = true then [z] else [] := by
        rw [take_more hz, List.filter_append, List.filter_cons]
        rfl
      split
      · rename_i h1
        rw [if_pos h1] at et
        refine hte z hm h1 H2 _ ((s1.trans sm).trans s2) fun H3 s3 => ?_
        refine ⟨_, s3 _ _ (s2 _ _ hD), ?_, fun b o e => ?_, ?_⟩
        · rw [List.length_map]
          have := List.length_filter_le p (ws.take i)
          rw [List.length_take] at this
          exact small1000 (by omega)
        · rw [upd_ne (ne_of_none e nD)]
          exact s3 _ _ (s2 _ _ (sm b o e))
        · rw [upd_same, et, List.map_append]
          rfl
      · rename_i h1
        rw [if_neg h1, List.append_nil] at et
        exact ⟨sm.trans s2, by rw [et]; exact s2 _ _ hD⟩
  · rintro H' ⟨sm, hD⟩
    rw [List.length_map, List.take_length] at hD
    exact q D H' (s1.free nD) (s1.trans sm) hD
/-- [f(x) for x in e if p(x)] over a tuple whose entries are known -/
theorem lc_genT {K : PySem.W.Frag} {te0 te : TE} {tt : TT} {σ : L2.St} {H : Hp} {r : Nat} {α : Type} {enc out : α → V} {ws : List α} {p : α → Bool} {Q : VK} (hl : ws.length ≤ 1000)
    (hit : ∀ F : VK, (∀ a H1, Same H H1 → H1 a = some (.tup (ws.map enc)) → F (.ref a) H1) → te0 σ H F)
    (htt : ∀ z ∈ ws, ∀ (H' : Hp) (Qb : Bool → Hp → Prop), Same H H' → (∀ H'', Same H' H'' → Qb (p z) H'') → tt ((σ.set r none).set r (some (enc z))) H' Qb)
    (hte : ∀ z ∈ ws, p z = true → ∀ (H' : Hp) (Q' : VK), Same H H' → (∀ H'', Same H' H'' → Q' (out z) H'') → te ((σ.set r none).set r (some (enc z))) H' Q')
    (q : ∀ (D : Addr) (H' : Hp), H D = none → Same H H' → H' D = some (.lst ((ws.filter p).map out)) → Q (.ref D) H') :
    tLc (iTup K te0) (gName r) tt te [r] σ H Q := by
  refine hit _ fun a H1 s1 ha => ?_
  refine ⟨a, rfl, ⟨_, SqT.of ha⟩, fun D nD => lc_tup (K := K) (a := a) (xs := ws.map enc) (fun i H' => Same H1 H' ∧ H' D = some (.lst (((ws.take i).filter p).map out))) ⟨same_upd nD, upd_same⟩ (fun i H' _ h' => SqT.of (h'.1 _ _ ha)) ?_ ?_⟩
  · rintro i x H' hi ⟨sm, hD⟩
    rw [List.getElem?_map] at hi
    obtain ⟨z, hz, rfl⟩ := Option.map_eq_some_iff.mp hi
    have hm := List.mem_of_getElem? hz
    refine ⟨?_, htt z hm H' _ (s1.trans sm) fun H2 s2 => ?_⟩
    · show ((σ.set r none).set r (some (enc z))).set r none = σ.set r none
      rw [List.set_set, List.set_set]
    · have et : (ws.take (i + 1)).filter p = (ws.take i).filter p ++ if p z = true then [z] else [] := by
        rw [take_more hz, List.filter_append, List.filter_cons]
        rfl
      split
      · rename_i h1
        rw [if_pos h1] at et
        refine hte z hm h1 H2 _ ((s1.trans sm).trans s2) fun H3 s3 => ?_
        refine ⟨_, s3 _ _ (s2 _ _ hD), ?_, fun b o e => ?_, ?_⟩
        · rw [List.length_map]
          have := List.length_filter_le p (ws.take i)
          rw [List.length_take] at this
          exact small1000 (by omega)
        · rw [upd_ne (ne_of_none e nD)]
          exact s3 _ _ (s2 _ _ (sm b o e))
        · rw [upd_same, et, List.map_append]
          rfl
      · rename_i h1
        rw [if_neg h1, List.append_nil] at et
        exact ⟨sm.trans s2, by rw [et]; exact s2 _ _ hD⟩
  · rintro H' ⟨sm, hD⟩
    rw [List.length_map, List.take_length] at hD
    exact q D H' (s1.free nD) (s1.trans sm) hD
/-- [f(k) for k in range(n) if p(k)] -/
theorem lc_genR {ta : TA} {te : TE} {tt : TT} {σ : L2.St} {H : Hp} {r n : Nat} {out : Nat → V} {p : Nat → Bool} {Q : VK} (hl : n ≤ 1000)
    (hit : ∀ F : List V → Hp → Prop, (∀ H1, Same H H1 → F [.int n] H1) → ta σ H F)
    (htt : ∀ z, z < n → ∀ (H' : Hp) (Qb : Bool → Hp → Prop), Same H H' → (∀ H'', Same H' H'' → Qb (p z) H'') → tt ((σ.set r none).set r (some (.int z))) H' Qb)
    (hte : ∀ z, z < n → p z = true → ∀ (H' : Hp) (Q' : VK), Same H H' → (∀ H'', Same H' H'' → Q' (out z) H'') → te ((σ.set r none).set r (some (.int z))) H' Q')
    (q : ∀ (D : Addr) (H' : Hp), H D = none → Same H H' → H' D = some (.lst (((List.range n).filter p).map out)) → Q (.ref D) H') :
    tLc (iRng1 ta) (gName r) tt te [r] σ H Q := by
  refine hit _ fun H1 s1 => ?_
  refine ⟨_, rfl, by omega, by omega, fun D nD => lc_range (lo := 0) (n := n) (fun i H' => Same H1 H' ∧ H' D = some (.lst (((List.range i).filter p).map out))) ⟨same_upd nD, upd_same⟩ ?_ ?_⟩
  · rintro i H' hi ⟨sm, hD⟩
    have hi : i < n := hi
    rw [Int.zero_add]
    refine ⟨?_, htt i hi H' _ (s1.trans sm) fun H2 s2 => ?_⟩
    · show ((σ.set r none).set r (some (.int i))).set r none = σ.set r none
      rw [List.set_set, List.set_set]
    · have et : (List.range (i + 1)).filter p = (List.range i).filter p ++ if p i = true then [i] else [] := by
        rw [List.range_succ, List.filter_append, List.filter_cons]
        rfl
      split
      · rename_i h1
        rw [if_pos h1] at et
        refine hte i hi h1 H2 _ ((s1.trans sm).trans s2) fun H3 s3 => ?_
        refine ⟨_, s3 _ _ (s2 _ _ hD), ?_, fun b o e => ?_, ?_⟩
        · rw [List.length_map]
          have := List.length_filter_le p (List.range i)
          rw [List.length_range] at this
          exact small1000 (by omega)
        · rw [upd_ne (ne_of_none e nD)]
          exact s3 _ _ (s2 _ _ (sm b o e))
        · rw [upd_same, et, List.map_append]
          rfl
      · rename_i h1
        rw [if_neg h1, List.append_nil] at et
        exact ⟨sm.trans s2, by rw [et]; exact s2 _ _ hD⟩
  · rintro H' ⟨sm, hD⟩
    exact q D H' (s1.free nD) (s1.trans sm) hD
/-! kinds of errors -/
inductive PKind where
  | tooMany | badWord | double | badNumber | empty | unknown
  deriving DecidableEq
def kcls (cs : ECs) : PKind → Addr
  | .tooMany => cs.tooMany
  | .badWord => cs.badWord
  | .double => cs.double
  | .badNumber => cs.badNumber
  | .empty => cs.empty
  | .unknown => cs.unknown
structure ErrKinds (K : PySem.W.Frag) (cs : ECs) (CH : Addr) : Prop where
  held : ∀ i, PySem.W.kitOne K (.ref (kcls cs i)) (.ref CH) = some true
  other : ∀ i j, i ≠ j → PySem.W.exmOne K (.ref (kcls cs i)) (.ref (kcls cs j)) = some false
/-! rows move to other lists -/
theorem SRowIn.keep {H H' : Hp} {a t : Addr} {r : SRow} (h : SRowIn H a t r) (e : Same H H') : SRowIn H' a t r := by
  obtain ⟨b, c, x, y, z, u⟩ := h
  exact ⟨b, c, e _ _ x, e _ _ y, e _ _ z, u⟩
theorem SRowIn.move {H H' : Hp} {a p t : Addr} {r : SRow} (h : SRowIn H a t r) (e : Same H H') (n : H p = none) : SRowIn H' p t r := by
  obtain ⟨b, c, x, y, z, u⟩ := h
  exact ⟨b, c, e _ _ x, e _ _ y, e _ _ z, ne_of_none y n, ne_of_none z n⟩
theorem Paired.same {H H' : Hp} {ts : List Addr} {prs : List (Str × Int)} (h : Paired (fun t (r : Str × Int) => H t = some (.tup [.str r.1, .int r.2])) ts prs) (e : Same H H') : Paired (fun t (r : Str × Int) => H' t = some (.tup [.str r.1, .int r.2])) ts prs := Paired.imp2 (fun _ _ h => e _ _ h) h
/-- good rows: a plan of them is built -/
structure GoodRows (prs : List (Str × Int)) (srs : List SRow) : Prop where
  pw : ∀ r ∈ prs, Wd r.1 ∧ 0 ≤ r.2 ∧ r.2 ≤ 2
  pn : (prs.map (·.1)).Nodup
  sw : ∀ r ∈ srs, Wd r.1 ∧ r.2.1 ≠ [] ∧ r.2.1.Nodup ∧ (∀ y ∈ r.2.1, y ∈ prs.map (·.1)) ∧ r.2.2.Nodup ∧ (∀ y ∈ r.2.2, y ∈ prs.map (·.1))
  sn : (srs.map (·.1)).Nodup
  p1 : 1 ≤ prs.length
  p7 : prs.length ≤ 7
  s1 : 1 ≤ srs.length
  s13 : srs.length ≤ 13
theorem nodup_snoc {α : Type} {l : List α} {a : α} (h : l.Nodup) (n : a ∉ l) : (l ++ [a]).Nodup := by
  rw [List.nodup_append]
  exact ⟨h, by simp, fun x hx y hy e => by rw [List.mem_singleton.mp hy] at e; rw [e] at hx; exact n hx⟩
theorem placesDue_none : ∀ {prs : List (Str × Int)} {seen : List Str}, (∀ r ∈ prs, Wd r.1 ∧ 0 ≤ r.2 ∧ r.2 ≤ 99) → (seen ++ prs.map (·.1)).Nodup → placesDue seen prs = none
  | [], _, _, _ => rfl
  | (w, n) :: r, seen, h, hn => by
    obtain ⟨h1, h2⟩ := h _ (List.mem_cons_self ..)
    have hn2 : ((seen ++ [w]) ++ r.map (·.1)).Nodup := by
      rw [List.append_assoc]
      exact hn
    have hw : w ∉ seen := fun q => by
      rw [List.nodup_append] at hn
      exact hn.2.2 w q w (List.mem_cons_self ..) rfl
    have h1 : wd w.cps.toList = true := h1
    have h2 : 0 ≤ n ∧ n ≤ 99 := h2
    rw [placesDue_cons, if_pos h1, if_neg hw, if_pos h2]
    exact placesDue_none (fun r hr => h r (List.mem_cons_of_mem _ hr)) hn2
theorem stepsDue_none {places : List Str} : ∀ {srs : List SRow} {seen : List Str}, (∀ r ∈ srs, Wd r.1 ∧ r.2.1 ≠ [] ∧ r.2.1.Nodup ∧ (∀ y ∈ r.2.1, y ∈ places) ∧ r.2.2.Nodup ∧ (∀ y ∈ r.2.2, y ∈ places)) → (seen ++ srs.map (·.1)).Nodup → stepsDue places seen srs = none
  | [], _, _, _ => rfl
  | s :: r, seen, h, hn => by
    obtain ⟨h1, h2, h3, h4, h5, h6⟩ := h _ (List.mem_cons_self ..)
    have hn2 : ((seen ++ [s.1]) ++ r.map (·.1)).Nodup := by
      rw [List.append_assoc]
      exact hn
    have hw : s.1 ∉ seen := fun q => by
      rw [List.nodup_append] at hn
      exact hn.2.2 s.1 q s.1 (List.mem_cons_self ..) rfl
    have e1 : chk places [] s.2.1 = none := chk_none.mpr ⟨h3, fun w hw => ⟨h4 w hw, by simp⟩⟩
    have e2 : chk places [] s.2.2 = none := chk_none.mpr ⟨h5, fun w hw => ⟨h6 w hw, by simp⟩⟩
    have e : stepDue places seen s = none := by
      unfold stepDue
      have h1 : wd s.1.cps.toList = true := h1
      rw [if_pos h1, if_neg hw, if_neg h2, e1, e2]
      rfl
    rw [stepsDue_cons, e]
    exact stepsDue_none (fun r hr => h r (List.mem_cons_of_mem _ hr)) hn2
theorem planDue_none {prs : List (Str × Int)} {srs : List SRow} (hp : ∀ r ∈ prs, Wd r.1 ∧ 0 ≤ r.2 ∧ r.2 ≤ 99) (hn : (prs.map (·.1)).Nodup)
    (hs : ∀ r ∈ srs, Wd r.1 ∧ r.2.1 ≠ [] ∧ r.2.1.Nodup ∧ (∀ y ∈ r.2.1, y ∈ prs.map (·.1)) ∧ r.2.2.Nodup ∧ (∀ y ∈ r.2.2, y ∈ prs.map (·.1))) (hm : (srs.map (·.1)).Nodup) (l1 : prs.length ≤ 12) (l2 : srs.length ≤ 16) : planDue prs srs = none := by
  unfold planDue
  rw [if_neg (by omega), if_neg (by omega), placesDue_none hp (by simpa using hn)]
  exact stepsDue_none hs (by simpa using hm)
theorem GoodRows.due {prs : List (Str × Int)} {srs : List SRow} (h : GoodRows prs srs) : planDue prs srs = none :=
  planDue_none (fun r hr => by have := h.pw r hr; exact ⟨this.1, this.2.1, by omega⟩) h.pn h.sw h.sn (by have := h.p7; omega) (by have := h.s13; omega)
end L2

set_option Elab.async false
set_option linter.all false
set_option maxRecDepth 100000
set_option maxHeartbeats 4000000
/-! Dicts with tuples as keys: setdefault, a walk over the values. -/
namespace L2
open PySem PySem.Spec PyProof.Rows PySem.HErr
section
variable {X : Cx}
theorem putK_add {κ : Type} [DecidableEq κ] {kvs : List (κ × V)} {k : κ} {v : V} (h : valV kvs k = none) : putK kvs k v = kvs ++ [(k, v)] := by
  unfold putK
  rw [if_neg]
  rw [valV_any, h]
  exact Bool.false_ne_true
/-- d.setdefault(k, x) -/
def rSetDefT : V → List V → Hp → VK → Prop := fun x xs H Q => ∃ (a : Addr) (kvs : List (List L2.Key × V)) (k : List L2.Key) (b : Addr) (d : V), x = .ref a ∧ xs = [.ref b, d] ∧ H a = some (.dT kvs) ∧ H b = some (.tup (k.map kV)) ∧ kvs.length < sizeLine ∧
  (∀ v, valV kvs k = some v → Q v H) ∧ (valV kvs k = none → Q d (upd H a (.dT (kvs ++ [(k, d)]))))
theorem mt_setdefT (hu : X.A.units + 1 < cLine) : MtR X "dict.setdefault" rSetDefT := by
  intro pins s σ H x xs v us Q I rx rxs h
  obtain ⟨a, kvs, k, b, d, rfl, rfl, ha, hb, hlt, q1, q2⟩ := h
  cases rx
  obtain ⟨u1, u2, rfl, r1, r2⟩ := vals2 rxs
  cases r1
  obtain ⟨z, hd, xs', rel, dd⟩ := dt_of I.hok ha
  have hz : xs'.length ≤ sizeLine := by rw [← Paired.length rel]; exact z
  refine call_meetsIn PySem.F.slot_dict_setdefault dd.typeIs PySem.F.entry_dict_setdefault (PySem.F.args_dict_setdefault_3 _ _ _) (meetsH_dict_setdefault (tupleKind (mixKind X.prog X.w)) a b hd u2)
    ⟨tupleKind_room_in1 hu, k, xs', key_of I.hok hb, dd, hz, fun p hp => ?_, fun hn h' dd' hs => ?_⟩
  · have r := rel.val k
    rw [hp] at r
    obtain ⟨v0, ev, rv⟩ : ∃ v0, valV kvs k = some v0 ∧ RelV v0 p.2 := by
      cases ev : valV kvs k with
      | none =>
        rw [ev] at r
        exact (show False from r).elim
      | some v0 =>
        rw [ev] at r
        exact ⟨v0, rfl, r⟩
    show EP X pins σ Q p.2 _
    exact ⟨v0, H, I.tok _, rv, q1 v0 ev⟩
  · have r := rel.val k
    rw [hn] at r
    have e : valV kvs k = none := by
      cases ev : valV kvs k with
      | none => rfl
      | some v0 =>
        rw [ev] at r
        exact (show False from r).elim
    have q := q2 e
    rw [← putK_add e] at q
    obtain ⟨o, es, ep, hq, h2, h3, h4, _, h5⟩ := dd'
    have I2 : Inv X pins σ (upd H a (.dT (putK kvs k d))) { s with heap := h', toks := s.toks + (tupleKind (mixKind X.prog X.w)).draws k } :=
      d_write I (by rw [ha]; exact True.intro) hs ⟨o, hq⟩ ⟨by rw [putK_add e, List.length_append]; exact hlt, hd, _, (rel.put k hb r2).keeps (fun c ys ec => (by rw [upd_ne (ne_of ec ha (fun z => nomatch z))]; exact ec)), o, es, ep, hq, h2, h3, h4, h5⟩
    show EP X pins σ Q u2 _
    exact ⟨d, _, I2, r2, q⟩
end
/-- the values of a locked dict with tuples as keys -/
def Itdt (d : Addr) (o : Obj) (kvs : List (List Key × V)) : It :=
  ⟨fun i H => H d = some (.frz o (.dT kvs)) ∧ i < kvs.length, fun i H x H' => H' = H ∧ ∃ k, kvs[i]? = some (k, x), fun i H => H d = some (.frz o (.dT kvs)) ∧ kvs.length ≤ i⟩
theorem Inv.frzTv {X : Cx} {pins : List (Addr × Obj)} {σ : St} {H : Hp} {s : Shared} {d : Addr} {o : Obj} {kvs : List (List Key × V)} (I : Inv X pins σ H s) (h : H d = some (.frz o (.dT kvs))) :
    (d == sysModules) = false ∧ s.heap.get? d = some o ∧ o.ExactDict ∧ ∃ (es : Array DictEntry) (ep : Nat), o.data = .dict es ep ∧ es.size = kvs.length ∧
      ∀ (i : Nat) (k : List Key) (v : V), kvs[i]? = some (k, v) → ∃ en : DictEntry, es[i]? = some en ∧ RelV v en.val := by
  obtain ⟨hd, z, hs, xs, pr, o', es, ep, ho, hx, hdt, he, _⟩ := I.hok d _ h
  rw [hd] at ho
  cases ho
  refine ⟨hs, hd, hx, es, ep, hdt, ?_, fun i k v e => ?_⟩
  · have l1 : es.size = xs.length := size_of_entries he
    have l2 : kvs.length = xs.length := Paired.length pr
    omega
  · obtain ⟨b, hb, e1, e2, e3⟩ := paired_get pr e
    have q := entry_at he i
    rw [hb] at q
    exact ⟨_, q, e3⟩
theorem turn_valsT {P : Program} {w : World} {K : PySem.W.Frag} {tg : Expr} {d : Addr} {o : Obj} {es : Array DictEntry} {ep : Nat} {kvs : List (List Key × V)} (it : Addr) (hod : o.data = .dict es ep) :
    Turn P w K tg (Itdt d o kvs) [it] it (fun i h => h.IsValIter it d i kvs.length ep) where
  mem := by simp
  obj := fun i h st b hb => by
    have e : b = it := by simpa using hb
    subst e
    obtain ⟨oi, e, c, dd⟩ := st
    exact ⟨oi, e, fun v z => by rw [dd] at z; cases z⟩
  keep := fun i h h' st k => st.at fun oi e => k it (by simp) oi e
  item := by
    intro X hP hw hK hc i pins s σ H E I hf st hg
    subst hP hw hK
    obtain ⟨hd, hi⟩ := hg
    obtain ⟨f0, f1, f2, f3, f4, f5⟩ := hf it (by simp)
    obtain ⟨hs, hgd, hx, es', ep', hdt, hsz, ent⟩ := I.frzTv hd
    obtain ⟨rfl, rfl⟩ := dict_ep hod hdt
    obtain ⟨⟨k, v⟩, hkv⟩ : ∃ p, kvs[i]? = some p := ⟨kvs[i], List.getElem?_eq_getElem hi⟩
    obtain ⟨en, hen, rv⟩ := ent i k v hkv
    rw [← hsz] at st
    have hie : i < es'.size := by omega
    have een : es'[i] = en := by
      rw [Array.getElem?_eq_getElem hie] at hen
      exact Option.some.inj hen
    refine wpAny_pyNext_values_item_raw st ⟨o, hgd, hx, hdt⟩ hie fun h' st' sb => ?_
    have I1 : Inv X pins σ H { s with heap := h' } := I.turned (t' := s.toks) (fun b ob hb e => (sb.2 b hb).trans e) f0 f1 f3 f4 f5
    obtain ⟨oi, e, c, dd⟩ := id st'
    rw [een]
    refine ⟨en.val, rfl, go_of (s := { s with heap := h' }) e c dd (by decide) ⟨v, H, I1, rv, ⟨rfl, k, hkv⟩, ?_, fun b hb => (hf b hb).1⟩⟩
    show h'.IsValIter it d (i + 1) kvs.length _
    rw [← hsz]
    exact st'
  done := by
    intro X hP hw hK hc i pins s σ H E I hf st hg
    subst hP hw hK
    obtain ⟨hd, hi⟩ := hg
    obtain ⟨f0, f1, f2, f3, f4, f5⟩ := hf it (by simp)
    obtain ⟨hs, hgd, hx, es', ep', hdt, hsz, ent⟩ := I.frzTv hd
    obtain ⟨rfl, rfl⟩ := dict_ep hod hdt
    rw [← hsz] at st
    exact wpAny_pyNext_values_end_raw (I.ok.hd hc) st ⟨o, hgd, hx, hdt⟩ (by omega) fun h' eb => ⟨rfl, I.turned (t' := s.toks) (fun b ob hb e => eb b ob hb e) f0 f1 f3 f4 f5⟩
  self := fun A i s Q E st h => wpAny_pyIter_valiter st h
def iValsT (td : TE) : TI := fun σ H R => td σ H fun x H1 => ∃ d o kvs, x = .ref d ∧ H1 d = some (.frz o (.dT kvs)) ∧ R (Itdt d o kvs) H1
theorem pi_valuesT {X : Cx} {tg e : Expr} {td : TE} {apos cpos : Pos} (he : PE X e td) (hbase : attributeBase e "values" X.env (eval e X.env) = eval e X.env := by rfl) (hline : (apos.endLine == cpos.line) = true := by rfl) : PI X tg (.Call (.Attribute e "values" apos) [] [] cpos) (iValsT td) := by
  refine ⟨fun pins s σ H R I h => ?_⟩
  refine wpAny_Call_method (T := "dict") (id := "dict.values") hbase rfl hline F.plainAttrs_dict F.slot_dict_values F.type_dict_values (thn (he.run pins s σ H _ I h) fun u s1 ⟨x, H1, I1, rx, d, o, kvs, ex, hd, q⟩ => ?_)
  subst ex
  obtain rfl : u = Value.ref d := rx
  obtain ⟨hs, hgd, hx, es, ep, hdt, hsz, ent⟩ := I1.frzTv hd
  have raw : s1.heap.DictRaw d es ep := ⟨o, hgd, hx, hdt⟩
  refine ⟨raw.typeIs, ?_, ?_⟩
  · intro b e
    cases e
    exact ⟨o, hgd, hx.2.1⟩
  have I2 : Inv X pins σ H1 { s1 with heap := s1.heap.push { cls := .type "dict_values", data := .fields #[.ref d] } } := I1.kept (t' := s1.toks) fun b ob q => Heap.get?_push_of_some _ q
  have fin : wpAny (model X.prog X.w) X.A (pyIter (.ref s1.heap.objs.size)) (PIE X pins σ tg R) X.xe { s1 with heap := s1.heap.push { cls := .type "dict_values", data := .fields #[.ref d] } } := by
    refine wpAny_pyIter_values_raw (d := d) ⟨_, Heap.get?_push_size _ rfl, rfl, rfl⟩ (raw.at fun ob e => Heap.get?_push_of_some _ e) (pi_one (tk := s1.toks) I2 _ (turn_valsT _ hdt) ⟨_, Heap.get?_push_size _ rfl, rfl, ?_⟩ q)
    rw [hsz] <;> rfl
  show wpAny _ _ (callWith cpos (.builtin "dict.values") [.ref d] [] []) _ X.xe s1
  exact method_meetsIn F.slot_dict_values F.entry_dict_values rfl (PySem.evalArgs_none ⟨rfl, raw.typeIs, F.args_dict_values_1 _, _, meets_dict_values_raw d hs, ⟨es, ep, raw⟩, fin⟩)
theorem walk_valuesT {d : Addr} {o : Obj} {kvs : List (List Key × V)} : Walk (Itdt d o kvs) kvs.length (fun H => H d = some (.frz o (.dT kvs))) (fun i H x H' => H' = H ∧ ∃ k, kvs[i]? = some (k, x)) :=
  ⟨fun _ _ hi q => ⟨q, hi⟩, fun _ q => ⟨q, Nat.le_refl _⟩, fun _ _ _ _ _ _ y => y⟩
end L2

set_option Elab.async false
set_option linter.all false
set_option maxRecDepth 100000
set_option maxHeartbeats 4000000
/-! The ground: F, what stands and never changes; cells, what is one's own and may change. Defs are walked by what their names hold; no heap is seen. -/
namespace L2
open PySem PySem.Spec PyProof.Rows PySem.HErr
/-- what a value is, in the frozen heap -/
structure Vp where
  p : Hp → V → Prop
  mono : ∀ {F F' : Hp} {v : V}, Same F F' → p F v → p F' v
/-- how a thing of Lean stands for a value -/
structure Rep (α : Type) where
  p : Hp → V → α → Prop
  mono : ∀ {F F' : Hp} {v : V} {x : α}, Same F F' → p F v x → p F' v x
def iz {α : Type} (r : Rep α) (x : α) : Vp := ⟨fun F v => r.p F v x, fun e h => r.mono e h⟩
def zAt (a : Addr) : Vp := ⟨fun _ v => v = .ref a, fun _ h => h⟩
def zNon : Vp := ⟨fun _ v => v = .non, fun _ h => h⟩
def zI : Rep Int := ⟨fun _ v x => v = .int x, fun _ h => h⟩
def zB : Rep Bool := ⟨fun _ v x => v = .bl x, fun _ h => h⟩
def zS : Rep Str := ⟨fun _ v x => v = .str x ∧ Asc x, fun _ h => h⟩
abbrev PVs {α : Type} (r : Rep α) (F : Hp) (vs : List V) (xs : List α) : Prop := Paired (fun v x => r.p F v x) vs xs
def zL {α : Type} (r : Rep α) : Rep (List α) := ⟨fun F v xs => ∃ a vs, v = .ref a ∧ F a = some (.lst vs) ∧ PVs r F vs xs, fun e ⟨a, vs, h1, h2, h3⟩ => ⟨a, vs, h1, e _ _ h2, Paired.imp2 (fun _ _ h => r.mono e h) h3⟩⟩
def zT {α : Type} (r : Rep α) : Rep (List α) := ⟨fun F v xs => ∃ a vs, v = .ref a ∧ F a = some (.tup vs) ∧ PVs r F vs xs, fun e ⟨a, vs, h1, h2, h3⟩ => ⟨a, vs, h1, e _ _ h2, Paired.imp2 (fun _ _ h => r.mono e h) h3⟩⟩
def z2 {α β : Type} (r : Rep α) (s : Rep β) : Rep (α × β) := ⟨fun F v x => ∃ a u w, v = .ref a ∧ F a = some (.tup [u, w]) ∧ r.p F u x.1 ∧ s.p F w x.2, fun e ⟨a, u, w, h1, h2, h3, h4⟩ => ⟨a, u, w, h1, e _ _ h2, r.mono e h3, s.mono e h4⟩⟩
def z3 {α β γ : Type} (r : Rep α) (s : Rep β) (t : Rep γ) : Rep (α × β × γ) := ⟨fun F v x => ∃ a u w z, v = .ref a ∧ F a = some (.tup [u, w, z]) ∧ r.p F u x.1 ∧ s.p F w x.2.1 ∧ t.p F z x.2.2, fun e ⟨a, u, w, z, h1, h2, h3, h4, h5⟩ => ⟨a, u, w, z, h1, e _ _ h2, r.mono e h3, s.mono e h4, t.mono e h5⟩⟩
/-- None or a thing -/
def zO {α : Type} (r : Rep α) : Rep (Option α) := ⟨fun F v x => match x with | none => v = .non | some y => r.p F v y, fun {F F' v x} e h => by
  cases x with
  | none => exact h
  | some y => exact r.mono e h⟩
/-! ### cells -/
structure Cel where
  a : Addr
  own : Bool
  φ : Hp → HO → Prop
  mono : ∀ {F F' : Hp} {o : HO}, Same F F' → φ F o → φ F' o
def cL {α : Type} (a : Addr) (r : Rep α) (xs : List α) : Cel := ⟨a, true, fun F o => ∃ vs, o = .lst vs ∧ PVs r F vs xs, fun e ⟨vs, h1, h2⟩ => ⟨vs, h1, Paired.imp2 (fun _ _ h => r.mono e h) h2⟩⟩
/-- the law's box at b, its script at l -/
def cBox (own : Bool) (b l : Addr) : Cel := ⟨b, own, fun F o => ∃ (ns : List Int) (i c r : Int), o = .lst [.int i, .int c, .int r, .ref l] ∧ F l = some (.lst (ns.map V.int)) ∧ 0 ≤ i, fun e ⟨ns, i, c, r, h1, h2, h3⟩ => ⟨ns, i, c, r, h1, e _ _ h2, h3⟩⟩
/-- what stood at the beginning: F0 frozen, H0 all, B lent -/
structure Fr where
  F0 : Hp
  H0 : Hp
  B : List Addr
structure OkF (fr : Fr) (Θ : List Cel) (F H : Hp) : Prop where
  fh : Same F H
  f0 : Same fr.F0 F
  nw : ∀ a o, F a = some o → (∃ o', fr.F0 a = some o') ∨ fr.H0 a = none
  h0 : ∀ a o, a ∉ fr.B → fr.H0 a = some o → H a = some o
  al : ∀ a o, fr.H0 a = some o → ∃ o', H a = some o'
  nd : (Θ.map Cel.a).Nodup
  ce : ∀ c ∈ Θ, F c.a = none ∧ (∃ o, H c.a = some o ∧ c.φ F o) ∧ (if c.own = true then fr.H0 c.a = none else c.a ∈ fr.B)
section
variable {fr : Fr} {Θ : List Cel} {F F' H H' : Hp}
theorem OkF.h0n (k : OkF fr Θ F H) {p : Addr} (n : H p = none) : fr.H0 p = none := by
  cases q : fr.H0 p with
  | none => rfl
  | some o =>
    obtain ⟨o', h⟩ := k.al p o q
    rw [n] at h
    cases h
theorem OkF.new {p : Addr} {o : HO} (k : OkF fr Θ F H) (n : H p = none) : OkF fr Θ (upd F p o) (upd H p o) := by
  have nF : F p = none := k.fh.free n
  refine ⟨fun a u h => ?_, k.f0.trans (same_upd nF), fun a u h => ?_, fun a u hB h => ?_, fun a u h => ?_, k.nd, fun c hc => ?_⟩
  · by_cases e : a = p
    · subst e
      rw [upd_same] at h ⊢
      exact h
    · rw [upd_ne e] at h ⊢
      exact k.fh a u h
  · by_cases e : a = p
    · subst e
      exact .inr (k.h0n n)
    · rw [upd_ne e] at h
      exact k.nw a u h
  · have := k.h0 a u hB h
    rw [upd_ne (ne_of_none this n)]
    exact this
  · obtain ⟨o', h'⟩ := k.al a u h
    exact ⟨o', by rw [upd_ne (ne_of_none h' n)]; exact h'⟩
  · obtain ⟨h1, ⟨u, h2, h3⟩, h4⟩ := k.ce c hc
    have ne := ne_of_none h2 n
    exact ⟨by rw [upd_ne ne]; exact h1, ⟨u, by rw [upd_ne ne]; exact h2, c.mono (same_upd nF) h3⟩, h4⟩
theorem OkF.sameF {p : Addr} {o : HO} (k : OkF fr Θ F H) (n : H p = none) : Same F (upd F p o) := same_upd (k.fh.free n)
theorem OkF.mkOwn {c : Cel} {o : HO} (k : OkF fr Θ F H) (n : H c.a = none) (ho : c.own = true) (h : c.φ F o) : OkF fr (c :: Θ) F (upd H c.a o) := by
  refine ⟨k.fh.trans (same_upd n), k.f0, k.nw, fun a u hB h => ?_, fun a u h => ?_, ?_, fun d hd => ?_⟩
  · have := k.h0 a u hB h
    rw [upd_ne (ne_of_none this n)]
    exact this
  · obtain ⟨o', h'⟩ := k.al a u h
    exact ⟨o', by rw [upd_ne (ne_of_none h' n)]; exact h'⟩
  · rw [List.map_cons, List.nodup_cons]
    refine ⟨fun hm => ?_, k.nd⟩
    obtain ⟨d, hd, e⟩ := List.mem_map.mp hm
    obtain ⟨_, ⟨u, h2, _⟩, _⟩ := k.ce d hd
    rw [e, n] at h2
    cases h2
  · rcases List.mem_cons.mp hd with rfl | hd
    · exact ⟨k.fh.free n, ⟨o, upd_same, h⟩, by rw [if_pos ho]; exact k.h0n n⟩
    · obtain ⟨h1, ⟨u, h2, h3⟩, h4⟩ := k.ce d hd
      exact ⟨h1, ⟨u, by rw [upd_ne (ne_of_none h2 n)]; exact h2, h3⟩, h4⟩
theorem nodup_at {l : List Cel} (h : (l.map Cel.a).Nodup) {i : Nat} {c d : Cel} (hi : l[i]? = some c) {j : Nat} (hj : l[j]? = some d) (e : d.a = c.a) : i = j := by
  have hi' : (l.map Cel.a)[i]? = some c.a := by rw [List.getElem?_map, hi]; rfl
  have hj' : (l.map Cel.a)[j]? = some c.a := by rw [List.getElem?_map, hj, ← e]; rfl
  exact (List.getElem?_inj (List.getElem?_eq_some_iff.mp hi').1 h).mp (hi'.trans hj'.symm)
/-- a cell's content changes -/
theorem OkF.mut {i : Nat} {c c' : Cel} {o : HO} (k : OkF fr Θ F H) (hi : Θ[i]? = some c) (ha : c'.a = c.a) (ho : c'.own = c.own) (h : c'.φ F o) : OkF fr (Θ.set i c') F (upd H c.a o) := by
  have hm := List.mem_of_getElem? hi
  obtain ⟨h1, ⟨u0, h2, h3⟩, h4⟩ := k.ce c hm
  refine ⟨fun a u h => ?_, k.f0, k.nw, fun a u hB h => ?_, fun a u h => ?_, ?_, fun d hd => ?_⟩
  · have ne : a ≠ c.a := fun e => by rw [e, h1] at h; cases h
    rw [upd_ne ne]
    exact k.fh a u h
  · have ne : a ≠ c.a := fun e => by
      cases q : c.own with
      | true =>
        rw [if_pos q] at h4
        rw [e, h4] at h
        cases h
      | false =>
        rw [if_neg (by rw [q]; exact Bool.false_ne_true)] at h4
        rw [e] at hB
        exact hB h4
    rw [upd_ne ne]
    exact k.h0 a u hB h
  · by_cases e : a = c.a
    · exact ⟨o, by rw [e]; exact upd_same⟩
    · rw [upd_ne e]
      exact k.al a u h
  · have : (Θ.set i c').map Cel.a = Θ.map Cel.a := by
      rw [List.map_set, ha]
      apply List.ext_getElem?
      intro j
      rw [List.getElem?_set]
      split
      · rename_i e
        subst e
        rw [List.getElem?_map, hi]
        have hlt : i < (Θ.map Cel.a).length := by
          rw [List.length_map]
          exact (List.getElem?_eq_some_iff.mp hi).1
        rw [if_pos hlt]
        rfl
      · rfl
    rw [this]
    exact k.nd
  · obtain ⟨j, hj⟩ := List.getElem?_of_mem hd
    rw [List.getElem?_set] at hj
    split at hj
    · rename_i e
      split at hj
      · cases hj
        rw [ha, ho]
        exact ⟨h1, ⟨o, upd_same, h⟩, h4⟩
      · cases hj
    · rename_i e
      have hd' := List.mem_of_getElem? hj
      obtain ⟨g1, ⟨u, g2, g3⟩, g4⟩ := k.ce d hd'
      have ne : d.a ≠ c.a := fun q => e (nodup_at k.nd hi hj q)
      exact ⟨g1, ⟨u, by rw [upd_ne ne]; exact g2, g3⟩, g4⟩
/-- a cell of one's own is frozen -/
theorem OkF.frz {i : Nat} {c : Cel} {o : HO} (k : OkF fr Θ F H) (hi : Θ[i]? = some c) (ho : c.own = true) (h : H c.a = some o) : OkF fr (Θ.eraseIdx i) (upd F c.a o) H := by
  have hm := List.mem_of_getElem? hi
  obtain ⟨h1, _, h4⟩ := k.ce c hm
  rw [if_pos ho] at h4
  have hlt := (List.getElem?_eq_some_iff.mp hi).1
  refine ⟨fun a u e => ?_, k.f0.trans (same_upd h1), fun a u e => ?_, k.h0, k.al, ?_, fun d hd => ?_⟩
  · by_cases q : a = c.a
    · rw [q, upd_same] at e
      rw [q, h, e]
    · rw [upd_ne q] at e
      exact k.fh a u e
  · by_cases q : a = c.a
    · rw [q]
      exact .inr h4
    · rw [upd_ne q] at e
      exact k.nw a u e
  · exact (List.Sublist.map Cel.a (List.eraseIdx_sublist Θ i)).nodup k.nd
  · obtain ⟨j, hj⟩ := List.getElem?_of_mem hd
    rw [List.getElem?_eraseIdx] at hj
    have key : ∀ j', j' ≠ i → Θ[j']? = some d → (upd F c.a o) d.a = none ∧ (∃ u, H d.a = some u ∧ d.φ (upd F c.a o) u) ∧ (if d.own = true then fr.H0 d.a = none else d.a ∈ fr.B) := fun j' hne hj' => by
      obtain ⟨g1, ⟨u, g2, g3⟩, g4⟩ := k.ce d (List.mem_of_getElem? hj')
      have ne : d.a ≠ c.a := fun q => hne (nodup_at k.nd hi hj' q).symm
      exact ⟨by rw [upd_ne ne]; exact g1, ⟨u, g2, d.mono (same_upd h1) g3⟩, g4⟩
    split at hj
    · exact key j (by omega) hj
    · exact key (j + 1) (by omega) hj
/-- after a call that lets all stand -/
theorem OkF.grow (k : OkF fr Θ F H) (hh : Same H H') (ff : Same F F') (fh : Same F' H') (nw : ∀ a o, F' a = some o → (∃ o', F a = some o') ∨ H a = none) : OkF fr Θ F' H' := by
  refine ⟨fh, k.f0.trans ff, fun a o h => ?_, fun a o hB h => hh _ _ (k.h0 a o hB h), fun a o h => ?_, k.nd, fun c hc => ?_⟩
  · rcases nw a o h with ⟨o', h'⟩ | h'
    · exact k.nw a o' h'
    · exact .inr (k.h0n h')
  · obtain ⟨o', h'⟩ := k.al a o h
    exact ⟨o', hh _ _ h'⟩
  · obtain ⟨h1, ⟨u, h2, h3⟩, h4⟩ := k.ce c hc
    refine ⟨?_, ⟨u, hh _ _ h2, c.mono ff h3⟩, h4⟩
    cases q : F' c.a with
    | none => rfl
    | some o =>
      rcases nw _ _ q with ⟨o', h'⟩ | h'
      · rw [h1] at h'
        cases h'
      · rw [h2] at h'
        cases h'
/-- at the start of a def: all that stands is frozen -/
theorem OkF.start (fh : Same F H) : OkF ⟨F, H, []⟩ [] F H := ⟨fh, Same.refl F, fun a o h => .inl ⟨o, h⟩, fun _ _ _ h => h, fun _ o h => ⟨o, h⟩, List.nodup_nil, fun c hc => by cases hc⟩
end
/-! ### what the names hold -/
abbrev Gam := List (Option Vp)
def EnvF (Γ : Gam) (σ : L2.St) (F : Hp) : Prop := Paired (fun (e : Option Vp) (s : Option V) => ∀ p, e = some p → ∃ v, s = some v ∧ p.p F v) Γ σ
section
variable {Γ : Gam} {σ : L2.St} {F F' : Hp}
theorem EnvF.mono (h : EnvF Γ σ F) (e : Same F F') : EnvF Γ σ F' := Paired.imp2 (fun _ _ h p hp => by
  obtain ⟨v, h1, h2⟩ := h p hp
  exact ⟨v, h1, p.mono e h2⟩) h
theorem EnvF.get {i : Nat} {p : Vp} (h : EnvF Γ σ F) (hi : Γ[i]? = some (some p)) : ∃ v, σ[i]? = some (some v) ∧ p.p F v := by
  obtain ⟨s, h1, h2⟩ := Paired.get h hi
  obtain ⟨v, rfl, h3⟩ := h2 p rfl
  exact ⟨v, h1, h3⟩
theorem Paired.set {α β : Type} {R : α → β → Prop} {a : α} {b : β} (r : R a b) : ∀ {l : List α} {m : List β} (i : Nat), Paired R l m → Paired R (l.set i a) (m.set i b)
  | _, _, _, .nil => .nil
  | _, _, 0, .cons _ t => .cons r t
  | _, _, i + 1, .cons x t => .cons x (Paired.set r i t)
theorem EnvF.set {i : Nat} {p : Vp} {v : V} (h : EnvF Γ σ F) (hp : p.p F v) : EnvF (Γ.set i (some p)) (σ.set i (some v)) F :=
  Paired.set (fun q hq => by cases hq; exact ⟨v, rfl, hp⟩) i h
theorem EnvF.drop {i : Nat} {s : Option V} (h : EnvF Γ σ F) : EnvF (Γ.set i none) (σ.set i s) F := Paired.set (fun q hq => by cases hq) i h
theorem EnvF.len (h : EnvF Γ σ F) : Γ.length = σ.length := Paired.len h
end
/-! ### the judgements -/
def At (fr : Fr) (Γ : Gam) (Θ : List Cel) (σ : L2.St) (H : Hp) : Prop := ∃ F, OkF fr Θ F H ∧ EnvF Γ σ F
/-- wherever the names hold Γ and the cells Θ, P holds -/
def Kn (fr : Fr) (Γ : Gam) (Θ : List Cel) (P : L2.St → Hp → Prop) : Prop := ∀ σ F H, OkF fr Θ F H → EnvF Γ σ F → P σ H
def Kq (fr : Fr) (F : Hp) (K : Vp → List Cel → Prop) (Q : VK) : Prop := ∀ p Θ', K p Θ' → ∀ v F' H', Same F F' → OkF fr Θ' F' H' → p.p F' v → Q v H'
def Kb (fr : Fr) (F : Hp) (K : Bool → List Cel → Prop) (Q : Bool → Hp → Prop) : Prop := ∀ b Θ', K b Θ' → ∀ F' H', Same F F' → OkF fr Θ' F' H' → Q b H'
def Ka (fr : Fr) (F : Hp) (K : List Vp → List Cel → Prop) (Q : List V → Hp → Prop) : Prop := ∀ ps Θ', K ps Θ' → ∀ vs F' H', Same F F' → OkF fr Θ' F' H' → Paired (fun (p : Vp) v => p.p F' v) ps vs → Q vs H'
def Ko (fr : Fr) (F : Hp) (K : Option Int → List Cel → Prop) (Q : Option Int → Hp → Prop) : Prop := ∀ b Θ', K b Θ' → ∀ F' H', Same F F' → OkF fr Θ' F' H' → Q b H'
def We (fr : Fr) (Γ : Gam) (Θ : List Cel) (t : TE) (K : Vp → List Cel → Prop) : Prop := ∀ σ F H, OkF fr Θ F H → EnvF Γ σ F → ∀ Q, Kq fr F K Q → t σ H Q
def Wt (fr : Fr) (Γ : Gam) (Θ : List Cel) (t : TT) (K : Bool → List Cel → Prop) : Prop := ∀ σ F H, OkF fr Θ F H → EnvF Γ σ F → ∀ Q, Kb fr F K Q → t σ H Q
def Wa (fr : Fr) (Γ : Gam) (Θ : List Cel) (t : TA) (K : List Vp → List Cel → Prop) : Prop := ∀ σ F H, OkF fr Θ F H → EnvF Γ σ F → ∀ Q, Ka fr F K Q → t σ H Q
def Wo (fr : Fr) (Γ : Gam) (Θ : List Cel) (t : TO) (K : Option Int → List Cel → Prop) : Prop := ∀ σ F H, OkF fr Θ F H → EnvF Γ σ F → ∀ Q, Ko fr F K Q → t σ H Q
/-- by values -/
def Ops (fr : Fr) (Θ : List Cel) (r : R2) (p q : Vp) (K : Vp → List Cel → Prop) : Prop := ∀ F H v w, OkF fr Θ F H → p.p F v → q.p F w → ∀ Q, Kq fr F K Q → r v w H Q
def Uns (fr : Fr) (Θ : List Cel) (r : V → Hp → VK → Prop) (p : Vp) (K : Vp → List Cel → Prop) : Prop := ∀ F H v, OkF fr Θ F H → p.p F v → ∀ Q, Kq fr F K Q → r v H Q
def Cbs (fr : Fr) (Θ : List Cel) (r : List V → Hp → VK → Prop) (ps : List Vp) (K : Vp → List Cel → Prop) : Prop := ∀ F H vs, OkF fr Θ F H → Paired (fun (p : Vp) v => p.p F v) ps vs → ∀ Q, Kq fr F K Q → r vs H Q
def Mts (fr : Fr) (Θ : List Cel) (r : V → List V → Hp → VK → Prop) (p : Vp) (ps : List Vp) (K : Vp → List Cel → Prop) : Prop := ∀ F H v vs, OkF fr Θ F H → p.p F v → Paired (fun (p : Vp) v => p.p F v) ps vs → ∀ Q, Kq fr F K Q → r v vs H Q
def Sls (fr : Fr) (Θ : List Cel) (r : V → Option Int → Option Int → Hp → VK → Prop) (p : Vp) (lo hi : Option Int) (K : Vp → List Cel → Prop) : Prop := ∀ F H v, OkF fr Θ F H → p.p F v → ∀ Q, Kq fr F K Q → r v lo hi H Q
/-- the value alone, and nothing else changes -/
abbrev Ev (fr : Fr) (Γ : Gam) (Θ : List Cel) (t : TE) (p : Vp) : Prop := We fr Γ Θ t fun q Θ' => q = p ∧ Θ' = Θ
abbrev Et (fr : Fr) (Γ : Gam) (Θ : List Cel) (t : TT) (b : Bool) : Prop := Wt fr Γ Θ t fun c Θ' => c = b ∧ Θ' = Θ
section
variable {fr : Fr} {Γ Γ' : Gam} {Θ : List Cel} {F F' H H' : Hp} {K : Vp → List Cel → Prop} {Q : VK}
theorem Kq.mono (h : Kq fr F K Q) (e : Same F F') : Kq fr F' K Q := fun p Θ' k v F2 H2 s2 => h p Θ' k v F2 H2 (e.trans s2)
theorem Kq.go {p : Vp} {v : V} (h : Kq fr F K Q) (k : K p Θ) (ok : OkF fr Θ F H) (hp : p.p F v) : Q v H := h p Θ k v F H (Same.refl F) ok hp
/-- a new object -/
theorem Kq.new {p : Vp} {a : Addr} {o : HO} (h : Kq fr F K Q) (k : K p Θ) (ok : OkF fr Θ F H) (n : H a = none) (hp : p.p (upd F a o) (.ref a)) : Q (.ref a) (upd H a o) := h p Θ k _ _ _ (ok.sameF n) (ok.new n) hp
theorem We.imp {t : TE} {K' : Vp → List Cel → Prop} (w : We fr Γ Θ t K) (h : ∀ p Θ', K p Θ' → K' p Θ') : We fr Γ Θ t K' := fun σ F H ok env Q q => w σ F H ok env Q fun p Θ' k => q p Θ' (h p Θ' k)
theorem we_var {i : Nat} {p : Vp} (h : Γ[i]? = some (some p)) (k : K p Θ) : We fr Γ Θ (tVar i) K := fun σ F H ok env Q q => by
  obtain ⟨v, h1, h2⟩ := env.get h
  exact ⟨v, h1, q.go k ok h2⟩
theorem we_c {v : V} {p : Vp} (hp : ∀ F, p.p F v) (k : K p Θ) : We fr Γ Θ (tC v) K := fun σ F H ok env Q q => q.go k ok (hp F)
theorem we_cI {n : Int} (k : K (iz zI n) Θ) : We fr Γ Θ (tC (.int n)) K := we_c (fun _ => rfl) k
theorem we_cS {z : Str} (h : Asc z) (k : K (iz zS z) Θ) : We fr Γ Θ (tC (.str z)) K := we_c (p := iz zS z) (fun _ => ⟨rfl, h⟩) k
theorem we_cB {b : Bool} (k : K (iz zB b) Θ) : We fr Γ Θ (tC (.bl b)) K := we_c (fun _ => rfl) k
theorem we_cN (k : K zNon Θ) : We fr Γ Θ (tC .non) K := we_c (fun _ => rfl) k
theorem we_op {r : R2} {ta tb : TE} (w : We fr Γ Θ ta fun p Θ1 => We fr Γ Θ1 tb fun q Θ2 => Ops fr Θ2 r p q K) : We fr Γ Θ (tOp r ta tb) K := fun σ F H ok env Q q =>
  w σ F H ok env _ fun p Θ1 k v F1 H1 s1 ok1 hp => k σ F1 H1 ok1 (env.mono s1) _ fun p2 Θ2 k2 v2 F2 H2 s2 ok2 hp2 => k2 F2 H2 v v2 ok2 (p.mono s2 hp) hp2 Q (q.mono (s1.trans s2))
theorem we_un {r : V → Hp → VK → Prop} {ta : TE} (w : We fr Γ Θ ta fun p Θ1 => Uns fr Θ1 r p K) : We fr Γ Θ (tUn r ta) K := fun σ F H ok env Q q =>
  w σ F H ok env _ fun p Θ1 k v F1 H1 s1 ok1 hp => k F1 H1 v ok1 hp Q (q.mono s1)
theorem wa_nil {K : List Vp → List Cel → Prop} (k : K [] Θ) : Wa fr Γ Θ tNil K := fun σ F H ok env Q q => q [] Θ k [] F H (Same.refl F) ok .nil
theorem wa_cons {K : List Vp → List Cel → Prop} {ta : TE} {tr : TA} (w : We fr Γ Θ ta fun p Θ1 => Wa fr Γ Θ1 tr fun ps Θ2 => K (p :: ps) Θ2) : Wa fr Γ Θ (tCons ta tr) K := fun σ F H ok env Q q =>
  w σ F H ok env _ fun p Θ1 k v F1 H1 s1 ok1 hp => k σ F1 H1 ok1 (env.mono s1) _ fun ps Θ2 k2 vs F2 H2 s2 ok2 hps => q (p :: ps) Θ2 k2 (v :: vs) F2 H2 (s1.trans s2) ok2 (.cons (p.mono s2 hp) hps)
theorem we_cb {r : List V → Hp → VK → Prop} {t : TA} (w : Wa fr Γ Θ t fun ps Θ1 => Cbs fr Θ1 r ps K) : We fr Γ Θ (tCB r t) K := fun σ F H ok env Q q =>
  w σ F H ok env _ fun ps Θ1 k vs F1 H1 s1 ok1 hps => k F1 H1 vs ok1 hps Q (q.mono s1)
theorem we_call {sp : Sp} {E : XK} {t : TA} (w : Wa fr Γ Θ t fun ps Θ1 => Cbs fr Θ1 (fun vs H Q => sp (vs ++ []) H Q E) ps K) : We fr Γ Θ (tCall sp [] E t) K := fun σ F H ok env Q q =>
  w σ F H ok env _ fun ps Θ1 k vs F1 H1 s1 ok1 hps => k F1 H1 vs ok1 hps Q (q.mono s1)
theorem we_bm {Kf : PySem.W.Frag} {T : String} {r : V → List V → Hp → VK → Prop} {to : TE} {t : TA} (w : We fr Γ Θ to fun p Θ1 => (∀ F H v, OkF fr Θ1 F H → p.p F v → tyV Kf T v H) ∧ Wa fr Γ Θ1 t fun ps Θ2 => Mts fr Θ2 r p ps K) : We fr Γ Θ (tBM Kf T r to t) K := fun σ F H ok env Q q =>
  w σ F H ok env _ fun p Θ1 ⟨kt, k⟩ v F1 H1 s1 ok1 hp => ⟨kt F1 H1 v ok1 hp, k σ F1 H1 ok1 (env.mono s1) _ fun ps Θ2 k2 vs F2 H2 s2 ok2 hps => k2 F2 H2 v vs ok2 (p.mono s2 hp) hps Q (q.mono (s1.trans s2))⟩
theorem we_bm0 {Kf : PySem.W.Frag} {T : String} {r : V → List V → Hp → VK → Prop} {to : TE} (w : We fr Γ Θ to fun p Θ1 => (∀ F H v, OkF fr Θ1 F H → p.p F v → tyV Kf T v H) ∧ Mts fr Θ1 r p [] K) : We fr Γ Θ (tBM0 Kf T r to) K := fun σ F H ok env Q q =>
  w σ F H ok env _ fun p Θ1 ⟨kt, k⟩ v F1 H1 s1 ok1 hp => ⟨kt F1 H1 v ok1 hp, k F1 H1 v [] ok1 hp .nil Q (q.mono s1)⟩
theorem wo_none {K : Option Int → List Cel → Prop} (k : K none Θ) : Wo fr Γ Θ tNoPart K := fun σ F H ok env Q q => q none Θ k F H (Same.refl F) ok
theorem wo_some {K : Option Int → List Cel → Prop} {t : TE} (w : We fr Γ Θ t fun p Θ1 => ∃ n, p = iz zI n ∧ K (some n) Θ1) : Wo fr Γ Θ (tPart t) K := fun σ F H ok env Q q =>
  w σ F H ok env _ fun p Θ1 ⟨n, e, k⟩ v F1 H1 s1 ok1 hp => by
    subst e
    exact ⟨n, hp, q (some n) Θ1 k F1 H1 s1 ok1⟩
theorem we_sl {r : V → Option Int → Option Int → Hp → VK → Prop} {te : TE} {tl th : TO} (w : We fr Γ Θ te fun p Θ1 => Wo fr Γ Θ1 tl fun lo Θ2 => Wo fr Γ Θ2 th fun hi Θ3 => Sls fr Θ3 r p lo hi K) : We fr Γ Θ (tSl r te tl th) K := fun σ F H ok env Q q =>
  w σ F H ok env _ fun p Θ1 k v F1 H1 s1 ok1 hp => k σ F1 H1 ok1 (env.mono s1) _ fun lo Θ2 k2 F2 H2 s2 ok2 => k2 σ F2 H2 ok2 ((env.mono s1).mono s2) _ fun hi Θ3 k3 F3 H3 s3 ok3 =>
    k3 F3 H3 v ok3 (p.mono (s2.trans s3) hp) Q (q.mono ((s1.trans s2).trans s3))
/-! tests -/
theorem wt_test {K : Bool → List Cel → Prop} {t : TE} (w : We fr Γ Θ t fun p Θ1 => ∃ b, p = iz zB b ∧ K b Θ1) : Wt fr Γ Θ (tTest t) K := fun σ F H ok env Q q =>
  w σ F H ok env _ fun p Θ1 ⟨b, e, k⟩ v F1 H1 s1 ok1 hp => by
    subst e
    exact ⟨b, hp, q b Θ1 k F1 H1 s1 ok1⟩
theorem wt_b {K : Bool → List Cel → Prop} {t : TE} (w : We fr Γ Θ t fun p Θ1 => ∃ b, p = iz zB b ∧ K b Θ1) : Wt fr Γ Θ (tB t) K := wt_test (fr := fr) w
theorem wt_not {K : Bool → List Cel → Prop} {t : TT} (w : Wt fr Γ Θ t fun b Θ1 => K (!b) Θ1) : Wt fr Γ Θ (tNot t) K := fun σ F H ok env Q q =>
  w σ F H ok env _ fun b Θ1 k F1 H1 s1 ok1 => q (!b) Θ1 k F1 H1 s1 ok1
theorem wt_and {K : Bool → List Cel → Prop} {t u : TT} {b c : Bool} (w : Et fr Γ Θ t b) (x : b = true → Et fr Γ Θ u c) (k : K (b && c) Θ) : Wt fr Γ Θ (tAnd t u) K := fun σ F H ok env Q q =>
  w σ F H ok env _ fun b1 Θ1 ⟨e1, e2⟩ F1 H1 s1 ok1 => by
    subst e1 e2
    cases b1 with
    | true =>
      rw [if_pos rfl]
      refine x rfl σ F1 H1 ok1 (env.mono s1) _ fun c1 Θ2 ⟨e1, e2⟩ F2 H2 s2 ok2 => ?_
      subst e1 e2
      exact q c1 _ k F2 H2 (s1.trans s2) ok2
    | false =>
      rw [if_neg Bool.false_ne_true]
      exact q false _ k F1 H1 s1 ok1
theorem wt_or {K : Bool → List Cel → Prop} {t u : TT} {b c : Bool} (w : Et fr Γ Θ t b) (x : b = false → Et fr Γ Θ u c) (k : K (b || c) Θ) : Wt fr Γ Θ (tOr t u) K := fun σ F H ok env Q q =>
  w σ F H ok env _ fun b1 Θ1 ⟨e1, e2⟩ F1 H1 s1 ok1 => by
    subst e1 e2
    cases b1 with
    | false =>
      rw [if_neg Bool.false_ne_true]
      refine x rfl σ F1 H1 ok1 (env.mono s1) _ fun c1 Θ2 ⟨e1, e2⟩ F2 H2 s2 ok2 => ?_
      subst e1 e2
      exact q c1 _ k F2 H2 (s1.trans s2) ok2
    | true =>
      rw [if_pos rfl]
      exact q true _ k F1 H1 s1 ok1
theorem we_and {t u : TE} {b c : Bool} (w : Ev fr Γ Θ t (iz zB b)) (x : b = true → Ev fr Γ Θ u (iz zB c)) (k : K (iz zB (b && c)) Θ) : We fr Γ Θ (tAndV t u) K := fun σ F H ok env Q q =>
  w σ F H ok env _ fun p1 Θ1 ⟨e1, e2⟩ v F1 H1 s1 ok1 hp => by
    subst e1 e2
    have hp : v = .bl b := hp
    refine ⟨b, hp, ?_⟩
    cases b with
    | true =>
      rw [if_pos rfl]
      refine x rfl σ F1 H1 ok1 (env.mono s1) _ fun c1 Θ2 ⟨e1, e2⟩ v2 F2 H2 s2 ok2 hp2 => ?_
      subst e1 e2
      exact q _ _ k v2 F2 H2 (s1.trans s2) ok2 hp2
    | false =>
      rw [if_neg Bool.false_ne_true]
      exact q _ _ k _ F1 H1 s1 ok1 rfl
theorem we_or {t u : TE} {b c : Bool} (w : Ev fr Γ Θ t (iz zB b)) (x : b = false → Ev fr Γ Θ u (iz zB c)) (k : K (iz zB (b || c)) Θ) : We fr Γ Θ (tOrV t u) K := fun σ F H ok env Q q =>
  w σ F H ok env _ fun p1 Θ1 ⟨e1, e2⟩ v F1 H1 s1 ok1 hp => by
    subst e1 e2
    have hp : v = .bl b := hp
    refine ⟨b, hp, ?_⟩
    cases b with
    | false =>
      rw [if_neg Bool.false_ne_true]
      refine x rfl σ F1 H1 ok1 (env.mono s1) _ fun c1 Θ2 ⟨e1, e2⟩ v2 F2 H2 s2 ok2 hp2 => ?_
      subst e1 e2
      exact q _ _ k v2 F2 H2 (s1.trans s2) ok2 hp2
    | true =>
      rw [if_pos rfl]
      exact q _ _ k _ F1 H1 s1 ok1 rfl
theorem we_not {t : TE} (w : We fr Γ Θ t fun p Θ1 => ∃ b, p = iz zB b ∧ K (iz zB (!b)) Θ1) : We fr Γ Θ (tNotV t) K := fun σ F H ok env Q q =>
  w σ F H ok env _ fun p Θ1 ⟨b, e, k⟩ v F1 H1 s1 ok1 hp => by
    subst e
    exact ⟨b, hp, q _ Θ1 k _ F1 H1 s1 ok1 rfl⟩
/-- a if c else b, by ways -/
theorem we_if {c : TT} {ta tb : TE} (w : Wt fr Γ Θ c fun b Θ1 => (b = true → We fr Γ Θ1 ta K) ∧ (b = false → We fr Γ Θ1 tb K)) : We fr Γ Θ (tIf c ta tb) K := fun σ F H ok env Q q =>
  w σ F H ok env _ fun b Θ1 ⟨k1, k2⟩ F1 H1 s1 ok1 => by
    cases b with
    | true =>
      rw [if_pos rfl]
      exact k1 rfl σ F1 H1 ok1 (env.mono s1) Q (q.mono s1)
    | false =>
      rw [if_neg Bool.false_ne_true]
      exact k2 rfl σ F1 H1 ok1 (env.mono s1) Q (q.mono s1)
/-- a if c else b, joined -/
theorem we_ifJ {α : Type} {r : Rep α} {x y : α} {c : TT} {ta tb : TE} {b : Bool} (w : Et fr Γ Θ c b) (wa : b = true → Ev fr Γ Θ ta (iz r x)) (wb : b = false → Ev fr Γ Θ tb (iz r y)) (k : K (iz r (if b = true then x else y)) Θ) : We fr Γ Θ (tIf c ta tb) K :=
  we_if fun σ F H ok env Q q => w σ F H ok env Q fun b1 Θ1 ⟨e1, e2⟩ => q b1 Θ1 (by
    subst e1 e2
    refine ⟨fun h => (wa h).imp fun p Θ' ⟨e1, e2⟩ => ?_, fun h => (wb h).imp fun p Θ' ⟨e1, e2⟩ => ?_⟩
    · subst e1 e2
      rw [if_pos h] at k
      exact k
    · subst e1 e2
      rw [if_neg (by rw [h]; exact Bool.false_ne_true)] at k
      exact k)
/-! ### statements -/
theorem kn_seq {t u : TS} {D : Ends} (h : Kn fr Γ Θ (t { D with nx := u D })) : Kn fr Γ Θ (tSeq t u D) := h
theorem kn_next {D : Ends} (h : Kn fr Γ Θ D.nx) : Kn fr Γ Θ (tNext D) := h
theorem kn_break {D : Ends} (h : Kn fr Γ Θ D.bk) : Kn fr Γ Θ (tBreak D) := h
theorem kn_cont {D : Ends} (h : Kn fr Γ Θ D.ct) : Kn fr Γ Θ (tCont D) := h
/-- a target -/
def TgR (g : TG) (vs : List Nat) (p : Vp) (Γ Γ' : Gam) : Prop := ∀ σ F H v, Same F H → EnvF Γ σ F → p.p F v → ∀ Q : L2.St → Hp → Prop, (∀ σ', EnvF Γ' σ' F → wipe σ' vs = wipe σ vs → Q σ' H) → g v σ H Q
theorem tg_name {i : Nat} {p : Vp} : TgR (gName i) [i] p Γ (Γ.set i (some p)) := fun σ F H v fh env hp Q q => q _ (env.set hp) (by
  show (σ.set i (some v)).set i none = σ.set i none
  rw [List.set_set])
theorem set_comm' {α : Type} {l : List α} {i j : Nat} {a b : α} (h : i ≠ j) : (l.set i a).set j b = (l.set j b).set i a := List.set_comm a b h
theorem tg2 {Kf : PySem.W.Frag} {i j : Nat} {α β : Type} {r : Rep α} {s : Rep β} {x : α × β} (hij : i ≠ j) : TgR (gTup Kf 2 (gCons (gName i) (gCons (gName j) gNil))) [i, j] (iz (z2 r s) x) Γ ((Γ.set i (some (iz r x.1))).set j (some (iz s x.2))) := fun σ F H v fh env hp Q q => by
  obtain ⟨a, u, w, rfl, h2, h3, h4⟩ := hp
  refine ⟨a, _, rfl, SqT.of (fh _ _ h2), rfl, u, _, rfl, w, _, rfl, rfl, q _ ((env.set (p := iz r x.1) h3).set (p := iz s x.2) h4) ?_⟩
  show ((((σ.set i (some u)).set j (some w)).set j none).set i none) = (σ.set j none).set i none
  rw [List.set_set, set_comm' hij, List.set_set]
theorem tg3 {Kf : PySem.W.Frag} {i j l : Nat} {α β γ : Type} {r : Rep α} {s : Rep β} {t : Rep γ} {x : α × β × γ} (hij : i ≠ j) (hil : i ≠ l) (hjl : j ≠ l) : TgR (gTup Kf 3 (gCons (gName i) (gCons (gName j) (gCons (gName l) gNil)))) [i, j, l] (iz (z3 r s t) x) Γ (((Γ.set i (some (iz r x.1))).set j (some (iz s x.2.1))).set l (some (iz t x.2.2))) := fun σ F H v fh env hp Q q => by
  obtain ⟨a, u, w, z, rfl, h2, h3, h4, h5⟩ := hp
  refine ⟨a, _, rfl, SqT.of (fh _ _ h2), rfl, u, _, rfl, w, _, rfl, z, _, rfl, rfl, q _ (((env.set (p := iz r x.1) h3).set (p := iz s x.2.1) h4).set (p := iz t x.2.2) h5) ?_⟩
  show ((((((σ.set i (some u)).set j (some w)).set l (some z)).set l none).set j none).set i none) = ((σ.set l none).set j none).set i none
  rw [List.set_set, set_comm' hjl, List.set_set, set_comm' hil, set_comm' hij, List.set_set]
theorem kn_asg {te : TE} {i : Nat} {D : Ends} (w : We fr Γ Θ te fun p Θ1 => Kn fr (Γ.set i (some p)) Θ1 D.nx) : Kn fr Γ Θ (tAsg te (gName i) D) := fun σ F H ok env =>
  w σ F H ok env _ fun p Θ1 k v F1 H1 s1 ok1 hp => k _ F1 H1 ok1 ((env.mono s1).set hp)
theorem kn_asgT {te : TE} {g : TG} {D : Ends} (w : We fr Γ Θ te fun p Θ1 => ∃ vs Γ', TgR g vs p Γ Γ' ∧ Kn fr Γ' Θ1 D.nx) : Kn fr Γ Θ (tAsg te g D) := fun σ F H ok env =>
  w σ F H ok env _ fun p Θ1 ⟨vs, Γ', tg, k⟩ v F1 H1 s1 ok1 hp => tg σ F1 H1 v ok1.fh (env.mono s1) hp _ fun σ' env' _ => k σ' F1 H1 ok1 env'
theorem kn_if {c : TT} {t u : TS} {D : Ends} (w : Wt fr Γ Θ c fun b Θ1 => (b = true → Kn fr Γ Θ1 (t D)) ∧ (b = false → Kn fr Γ Θ1 (u D))) : Kn fr Γ Θ (tIfS c t u D) := fun σ F H ok env =>
  w σ F H ok env _ fun b Θ1 ⟨k1, k2⟩ F1 H1 s1 ok1 => by
    cases b with
    | true =>
      rw [if_pos rfl]
      exact k1 rfl σ F1 H1 ok1 (env.mono s1)
    | false =>
      rw [if_neg Bool.false_ne_true]
      exact k2 rfl σ F1 H1 ok1 (env.mono s1)
/-- what is returned -/
def Rt (fr : Fr) (Θ : List Cel) (rt : VK) (p : Vp) : Prop := ∀ v F H, OkF fr Θ F H → p.p F v → rt v H
theorem kn_ret {te : TE} {D : Ends} (w : We fr Γ Θ te fun p Θ1 => Rt fr Θ1 D.rt p) : Kn fr Γ Θ (tRet te D) := fun σ F H ok env =>
  w σ F H ok env _ fun p Θ1 k v F1 H1 s1 ok1 hp => k v F1 H1 ok1 hp
theorem kn_retN {D : Ends} (k : Rt fr Θ D.rt zNon) : Kn fr Γ Θ (tRetN D) := fun σ F H ok env => k .non F H ok rfl
theorem kn_drop {te : TE} {D : Ends} (w : We fr Γ Θ te fun p Θ1 => Kn fr Γ Θ1 D.nx) : Kn fr Γ Θ (tDrop te D) := fun σ F H ok env =>
  w σ F H ok env _ fun p Θ1 k v F1 H1 s1 ok1 hp => k σ F1 H1 ok1 (env.mono s1)
/-- a cell is frozen, at a name -/
theorem kn_frz {α : Type} {r : Rep α} {xs : List α} {a : Addr} {i j : Nat} {P : L2.St → Hp → Prop} (hi : Γ[i]? = some (some (zAt a))) (hj : Θ[j]? = some (cL a r xs)) (k : Kn fr (Γ.set i (some (iz (zL r) xs))) (Θ.eraseIdx j) P) : Kn fr Γ Θ P := fun σ F H ok env => by
  obtain ⟨v, h1, h2⟩ := env.get hi
  have h2 : v = .ref a := h2
  subst h2
  obtain ⟨_, ⟨o, h3, vs, rfl, h5⟩, _⟩ := ok.ce _ (List.mem_of_getElem? hj)
  have h3 : H a = some (.lst vs) := h3
  have ok2 := ok.frz hj rfl h3
  have s2 : Same F (upd F a (.lst vs)) := same_upd (ok.ce _ (List.mem_of_getElem? hj)).1
  have e : σ.set i (some (V.ref a)) = σ := by
    apply List.ext_getElem?
    intro m
    rw [List.getElem?_set]
    split
    · rename_i q
      subst q
      rw [if_pos (List.getElem?_eq_some_iff.mp h1).1, h1]
    · rfl
  have := (env.mono s2).set (i := i) (p := iz (zL r) xs) (v := .ref a) ⟨a, vs, rfl, upd_same, Paired.imp2 (fun _ _ h => r.mono s2 h) h5⟩
  rw [e] at this
  exact k σ _ H ok2 this
theorem rt_frz {α : Type} {r : Rep α} {xs : List α} {a : Addr} {j : Nat} {rt : VK} (hj : Θ[j]? = some (cL a r xs)) (k : Rt fr (Θ.eraseIdx j) rt (iz (zL r) xs)) : Rt fr Θ rt (zAt a) := fun v F H ok hp => by
  have hp : v = .ref a := hp
  subst hp
  obtain ⟨h0, ⟨o, h3, vs, rfl, h5⟩, _⟩ := ok.ce _ (List.mem_of_getElem? hj)
  have h3 : H a = some (.lst vs) := h3
  have ok2 := ok.frz hj rfl h3
  exact k _ _ H ok2 ⟨a, vs, rfl, upd_same, Paired.imp2 (fun _ _ h => r.mono (same_upd h0) h) h5⟩
/-- less is known -/
def GLe (Γ Γ' : Gam) : Prop := Paired (fun (e e' : Option Vp) => e' = none ∨ e' = e) Γ Γ'
theorem EnvF.le {σ : L2.St} (h : EnvF Γ σ F) (l : GLe Γ Γ') : EnvF Γ' σ F := by
  induction l generalizing σ with
  | nil => exact h
  | cons a _ ih =>
    cases h with
    | cons b c =>
      refine .cons (fun p hp => ?_) (ih c)
      rcases a with a | a
      · rw [a] at hp
        cases hp
      · rw [a] at hp
        exact b p hp
theorem Kn.le {P : L2.St → Hp → Prop} (k : Kn fr Γ' Θ P) (l : GLe Γ Γ') : Kn fr Γ Θ P := fun σ F H ok env => k σ F H ok (env.le l)
/-- a point where ways meet -/
def Mid (fr : Fr) (I : Gam → List Cel → Prop) (σ : L2.St) (H : Hp) : Prop := ∃ Γ Θ F, I Γ Θ ∧ OkF fr Θ F H ∧ EnvF Γ σ F
theorem kn_mid {I : Gam → List Cel → Prop} (h : ∃ Γ', GLe Γ Γ' ∧ I Γ' Θ) : Kn fr Γ Θ (Mid fr I) := fun σ F H ok env => by
  obtain ⟨Γ', l, i⟩ := h
  exact ⟨Γ', Θ, F, i, ok, env.le l⟩
theorem kn_cut {t u : TS} {D : Ends} (I : Gam → List Cel → Prop) (h : Kn fr Γ Θ (t { D with nx := Mid fr I })) (k : ∀ Γ Θ, I Γ Θ → Kn fr Γ Θ (u D)) : Kn fr Γ Θ (C8.tCut t u D) := fun σ F H ok env =>
  ⟨Mid fr I, h σ F H ok env, fun σ' H' ⟨Γ1, Θ1, F1, i, ok1, env1⟩ => k Γ1 Θ1 i σ' F1 H' ok1 env1⟩
end
end L2

set_option Elab.async false
set_option linter.all false
set_option maxRecDepth 100000
set_option maxHeartbeats 4000000
/-! The ground, by values: operators, subscripts, calls of built-ins; walked things, loops, comprehensions. -/
namespace L2
open PySem PySem.Spec PyProof.Rows PySem.HErr
section
variable {fr : Fr} {Γ Γ' : Gam} {Θ : List Cel} {F F' H H' : Hp} {K : Vp → List Cel → Prop} {Q : VK}
theorem ops_I0 {h : Int → Int → Int} {m n : Int} (k : K (iz zI (h m n)) Θ) : Ops fr Θ (rI0 fun i j => .int (h i j)) (iz zI m) (iz zI n) K := fun F H v w ok hv hw Q q => ⟨m, n, hv, hw, q.go k ok rfl⟩
theorem ops_B0 {h : Int → Int → Bool} {m n : Int} (k : K (iz zB (h m n)) Θ) : Ops fr Θ (rI0 fun i j => .bl (h i j)) (iz zI m) (iz zI n) K := fun F H v w ok hv hw Q q => ⟨m, n, hv, hw, q.go k ok rfl⟩
theorem ops_IC {C : Int → Int → Prop} {h : Int → Int → Int} {m n : Int} (c : C m n) (k : K (iz zI (h m n)) Θ) : Ops fr Θ (rI C fun i j => .int (h i j)) (iz zI m) (iz zI n) K := fun F H v w ok hv hw Q q => ⟨m, n, hv, hw, c, q.go k ok rfl⟩
theorem uns_I {h : Int → Int} {m : Int} (k : K (iz zI (h m)) Θ) : Uns fr Θ (rU fun i => .int (h i)) (iz zI m) K := fun F H v ok hv Q q => ⟨m, hv, q.go k ok rfl⟩
theorem dec_inj {α : Type} [DecidableEq α] {c : α → V} (hc : ∀ x y, c x = c y → x = y) (x y : α) : decide (c x = c y) = decide (x = y) := by
  by_cases e : x = y
  · rw [e, decide_eq_true rfl, decide_eq_true rfl]
  · rw [decide_eq_false e, decide_eq_false fun q => e (hc _ _ q)]
theorem ops_eqI {m n : Int} (k : K (iz zB (decide (m = n))) Θ) : Ops fr Θ rEq (iz zI m) (iz zI n) K := fun F H v w ok hv hw Q q => by
  have hv : v = .int m := hv
  have hw : w = .int n := hw
  subst hv hw
  refine ⟨rfl, ?_⟩
  rw [dec_inj (fun x y => V.int.inj)]
  exact q.go k ok rfl
theorem ops_neI {m n : Int} (k : K (iz zB (!decide (m = n))) Θ) : Ops fr Θ rNe (iz zI m) (iz zI n) K := fun F H v w ok hv hw Q q => by
  have hv : v = .int m := hv
  have hw : w = .int n := hw
  subst hv hw
  refine ⟨rfl, ?_⟩
  rw [dec_inj (fun x y => V.int.inj)]
  exact q.go k ok rfl
theorem ops_eqS {m n : Str} (k : K (iz zB (decide (m = n))) Θ) : Ops fr Θ rEq (iz zS m) (iz zS n) K := fun F H v w ok hv hw Q q => by
  obtain ⟨hv, _⟩ := hv
  obtain ⟨hw, _⟩ := hw
  subst hv hw
  refine ⟨rfl, ?_⟩
  rw [dec_inj (fun x y => V.str.inj)]
  exact q.go k ok rfl
theorem ops_neS {m n : Str} (k : K (iz zB (!decide (m = n))) Θ) : Ops fr Θ rNe (iz zS m) (iz zS n) K := fun F H v w ok hv hw Q q => by
  obtain ⟨hv, _⟩ := hv
  obtain ⟨hw, _⟩ := hw
  subst hv hw
  refine ⟨rfl, ?_⟩
  rw [dec_inj (fun x y => V.str.inj)]
  exact q.go k ok rfl
theorem ops_eqB {m n : Bool} (k : K (iz zB (decide (m = n))) Θ) : Ops fr Θ rEq (iz zB m) (iz zB n) K := fun F H v w ok hv hw Q q => by
  have hv : v = .bl m := hv
  have hw : w = .bl n := hw
  subst hv hw
  refine ⟨rfl, ?_⟩
  rw [dec_inj (fun x y => V.bl.inj)]
  exact q.go k ok rfl
theorem ops_neB {m n : Bool} (k : K (iz zB (!decide (m = n))) Θ) : Ops fr Θ rNe (iz zB m) (iz zB n) K := fun F H v w ok hv hw Q q => by
  have hv : v = .bl m := hv
  have hw : w = .bl n := hw
  subst hv hw
  refine ⟨rfl, ?_⟩
  rw [dec_inj (fun x y => V.bl.inj)]
  exact q.go k ok rfl
theorem ops_addS {m n : Str} (hl : m.length + n.length ≤ sizeLine) (k : K (iz zS (m ++ n)) Θ) : Ops fr Θ (fun x y H Q => ∃ i j, x = .str i ∧ y = .str j ∧ i.length + j.length ≤ sizeLine ∧ Q (.str (i ++ j)) H) (iz zS m) (iz zS n) K := fun F H v w ok hv hw Q q => by
  obtain ⟨hv, a1⟩ := hv
  obtain ⟨hw, a2⟩ := hw
  exact ⟨m, n, hv, hw, hl, q.go k ok ⟨rfl, a1.app a2⟩⟩
/-! sequences -/
theorem pvs_S {vs : List V} {xs : List Str} (h : PVs zS F vs xs) : vs = xs.map V.str ∧ ∀ x ∈ xs, Asc x := by
  induction h with
  | nil => exact ⟨rfl, fun x hx => by cases hx⟩
  | cons a _ ih =>
    obtain ⟨a1, a2⟩ := a
    refine ⟨by rw [a1, ih.1]; rfl, fun x hx => ?_⟩
    rcases List.mem_cons.mp hx with rfl | hx
    · exact a2
    · exact ih.2 x hx
theorem pvs_I {vs : List V} {xs : List Int} (h : PVs zI F vs xs) : vs = xs.map V.int := by
  induction h with
  | nil => rfl
  | cons a _ ih =>
    have a : _ = V.int _ := a
    rw [a, ih]
    rfl
theorem pvs_B {vs : List V} {xs : List Bool} (h : PVs zB F vs xs) : vs = xs.map V.bl := by
  induction h with
  | nil => rfl
  | cons a _ ih =>
    have a : _ = V.bl _ := a
    rw [a, ih]
    rfl
theorem inV_ints (n : Int) (ws : List Int) : inV (.int n) (ws.map V.int) = decide (n ∈ ws) := by
  induction ws with
  | nil => rfl
  | cons a ws ih =>
    unfold inV at ih ⊢
    rw [List.map_cons, List.any_cons, ih]
    have e : eqV (V.int a) (V.int n) = decide (a = n) := rfl
    rw [e]
    by_cases h : a = n
    · rw [h]
      simp
    · rw [decide_eq_false h, Bool.false_or]
      by_cases h2 : n ∈ ws
      · rw [decide_eq_true h2, decide_eq_true (List.mem_cons_of_mem _ h2)]
      · rw [decide_eq_false h2, decide_eq_false fun q => (List.mem_cons.mp q).elim (fun e => h e.symm) h2]
theorem flat_intsG (ws : List Int) : (ws.map V.int).all flatV = true := by
  rw [List.all_map, List.all_eq_true]
  intro x _
  rfl
/-- a thing whose entries are xs, to be read: a frozen list, a frozen tuple, a cell -/
def SeqP {α : Type} (fr : Fr) (Θ : List Cel) (p : Vp) (r : Rep α) (xs : List α) : Prop := ∀ F H v, OkF fr Θ F H → p.p F v → ∃ a vs, v = .ref a ∧ (H a = some (.lst vs) ∨ H a = some (.tup vs)) ∧ PVs r F vs xs
theorem seq_L {α : Type} {r : Rep α} {xs : List α} : SeqP fr Θ (iz (zL r) xs) r xs := fun F H v ok ⟨a, vs, h1, h2, h3⟩ => ⟨a, vs, h1, .inl (ok.fh _ _ h2), h3⟩
theorem seq_T {α : Type} {r : Rep α} {xs : List α} : SeqP fr Θ (iz (zT r) xs) r xs := fun F H v ok ⟨a, vs, h1, h2, h3⟩ => ⟨a, vs, h1, .inr (ok.fh _ _ h2), h3⟩
theorem seq_C {α : Type} {r : Rep α} {xs : List α} {a : Addr} (hc : cL a r xs ∈ Θ) : SeqP fr Θ (zAt a) r xs := fun F H v ok hv => by
  obtain ⟨_, ⟨o, h2, vs, rfl, h4⟩, _⟩ := ok.ce _ hc
  exact ⟨a, vs, hv, .inl h2, h4⟩
theorem sq_or {Kf : PySem.W.Frag} {a : Addr} {vs : List V} (h : H a = some (.lst vs) ∨ H a = some (.tup vs)) : SqL Kf H a vs ∨ SqT Kf H a vs := h.elim (fun h => .inl (SqL.of h)) fun h => .inr (SqT.of h)
theorem ops_inS {Kf : PySem.W.Frag} {p : Vp} {z : Str} {xs : List Str} (h : SeqP fr Θ p zS xs) (k : K (iz zB (decide (z ∈ xs))) Θ) : Ops fr Θ (rIn Kf false) (iz zS z) p K := fun F H v w ok hv hw Q q => by
  obtain ⟨hv, _⟩ := hv
  obtain ⟨a, vs, rfl, h2, h3⟩ := h F H w ok hw
  obtain ⟨rfl, _⟩ := pvs_S h3
  subst hv
  refine ⟨a, _, rfl, sq_or h2, rfl, flat_strs _, ?_⟩
  rw [inV_strs]
  exact q.go k ok rfl
theorem ops_ninS {Kf : PySem.W.Frag} {p : Vp} {z : Str} {xs : List Str} (h : SeqP fr Θ p zS xs) (k : K (iz zB (!decide (z ∈ xs))) Θ) : Ops fr Θ (rIn Kf true) (iz zS z) p K := fun F H v w ok hv hw Q q => by
  obtain ⟨hv, _⟩ := hv
  obtain ⟨a, vs, rfl, h2, h3⟩ := h F H w ok hw
  obtain ⟨rfl, _⟩ := pvs_S h3
  subst hv
  refine ⟨a, _, rfl, sq_or h2, rfl, flat_strs _, ?_⟩
  rw [inV_strs]
  exact q.go k ok rfl
theorem ops_inI {Kf : PySem.W.Frag} {p : Vp} {z : Int} {xs : List Int} (h : SeqP fr Θ p zI xs) (k : K (iz zB (decide (z ∈ xs))) Θ) : Ops fr Θ (rIn Kf false) (iz zI z) p K := fun F H v w ok hv hw Q q => by
  have hv : v = .int z := hv
  obtain ⟨a, vs, rfl, h2, h3⟩ := h F H w ok hw
  have := pvs_I h3
  subst hv this
  refine ⟨a, _, rfl, sq_or h2, rfl, flat_intsG _, ?_⟩
  rw [inV_ints]
  exact q.go k ok rfl
theorem ops_ninI {Kf : PySem.W.Frag} {p : Vp} {z : Int} {xs : List Int} (h : SeqP fr Θ p zI xs) (k : K (iz zB (!decide (z ∈ xs))) Θ) : Ops fr Θ (rIn Kf true) (iz zI z) p K := fun F H v w ok hv hw Q q => by
  have hv : v = .int z := hv
  obtain ⟨a, vs, rfl, h2, h3⟩ := h F H w ok hw
  have := pvs_I h3
  subst hv this
  refine ⟨a, _, rfl, sq_or h2, rfl, flat_intsG _, ?_⟩
  rw [inV_ints]
  exact q.go k ok rfl
theorem pvs_at {α : Type} {r : Rep α} {vs : List V} {xs : List α} {n : Int} {x : α} (h : PVs r F vs xs) (e : atI xs n = some x) : ∃ v, atI vs n = some v ∧ r.p F v x := by
  unfold atI at e ⊢
  rw [Paired.len h]
  cases q : ixN xs.length n with
  | none =>
    rw [q] at e
    cases e
  | some j =>
    rw [q] at e
    exact Paired.get' h e
theorem ops_ixL {Kf : PySem.W.Frag} {α : Type} {r : Rep α} {xs : List α} {n : Int} {x : α} (e : atI xs n = some x) (k : K (iz r x) Θ) : Ops fr Θ (rIxL Kf) (iz (zL r) xs) (iz zI n) K := fun F H v w ok hv hw Q q => by
  obtain ⟨a, vs, rfl, h2, h3⟩ := hv
  obtain ⟨u, h4, h5⟩ := pvs_at h3 e
  exact ⟨a, vs, n, u, rfl, hw, SqL.of (ok.fh _ _ h2), h4, q.go k ok h5⟩
theorem ops_ixC {Kf : PySem.W.Frag} {α : Type} {r : Rep α} {xs : List α} {n : Int} {x : α} {a : Addr} (hc : cL a r xs ∈ Θ) (e : atI xs n = some x) (k : K (iz r x) Θ) : Ops fr Θ (rIxL Kf) (zAt a) (iz zI n) K := fun F H v w ok hv hw Q q => by
  obtain ⟨_, ⟨o, h2, vs, rfl, h3⟩, _⟩ := ok.ce _ hc
  obtain ⟨u, h4, h5⟩ := pvs_at h3 e
  exact ⟨a, vs, n, u, hv, hw, SqL.of h2, h4, q.go k ok h5⟩
theorem ops_ixT {Kf : PySem.W.Frag} {α : Type} {r : Rep α} {xs : List α} {n : Int} {x : α} (e : atI xs n = some x) (k : K (iz r x) Θ) : Ops fr Θ (rIxT Kf) (iz (zT r) xs) (iz zI n) K := fun F H v w ok hv hw Q q => by
  obtain ⟨a, vs, rfl, h2, h3⟩ := hv
  obtain ⟨u, h4, h5⟩ := pvs_at h3 e
  exact ⟨a, vs, n, u, rfl, hw, SqT.of (ok.fh _ _ h2), h4, q.go k ok h5⟩
/-- x[0], x[1] of a pair; x[0], x[1], x[2] of a triple -/
theorem ops_ix20 {Kf : PySem.W.Frag} {α β : Type} {r : Rep α} {s : Rep β} {x : α × β} (k : K (iz r x.1) Θ) : Ops fr Θ (rIxT Kf) (iz (z2 r s) x) (iz zI 0) K := fun F H v w ok hv hw Q q => by
  obtain ⟨a, u, z, rfl, h2, h3, h4⟩ := hv
  exact ⟨a, _, 0, u, rfl, hw, SqT.of (ok.fh _ _ h2), rfl, q.go k ok h3⟩
theorem ops_ix21 {Kf : PySem.W.Frag} {α β : Type} {r : Rep α} {s : Rep β} {x : α × β} (k : K (iz s x.2) Θ) : Ops fr Θ (rIxT Kf) (iz (z2 r s) x) (iz zI 1) K := fun F H v w ok hv hw Q q => by
  obtain ⟨a, u, z, rfl, h2, h3, h4⟩ := hv
  exact ⟨a, _, 1, z, rfl, hw, SqT.of (ok.fh _ _ h2), rfl, q.go k ok h4⟩
theorem ops_ix30 {Kf : PySem.W.Frag} {α β γ : Type} {r : Rep α} {s : Rep β} {t : Rep γ} {x : α × β × γ} (k : K (iz r x.1) Θ) : Ops fr Θ (rIxT Kf) (iz (z3 r s t) x) (iz zI 0) K := fun F H v w ok hv hw Q q => by
  obtain ⟨a, u, z, y, rfl, h2, h3, h4, h5⟩ := hv
  exact ⟨a, _, 0, u, rfl, hw, SqT.of (ok.fh _ _ h2), rfl, q.go k ok h3⟩
theorem ops_ix31 {Kf : PySem.W.Frag} {α β γ : Type} {r : Rep α} {s : Rep β} {t : Rep γ} {x : α × β × γ} (k : K (iz s x.2.1) Θ) : Ops fr Θ (rIxT Kf) (iz (z3 r s t) x) (iz zI 1) K := fun F H v w ok hv hw Q q => by
  obtain ⟨a, u, z, y, rfl, h2, h3, h4, h5⟩ := hv
  exact ⟨a, _, 1, z, rfl, hw, SqT.of (ok.fh _ _ h2), rfl, q.go k ok h4⟩
theorem ops_ix32 {Kf : PySem.W.Frag} {α β γ : Type} {r : Rep α} {s : Rep β} {t : Rep γ} {x : α × β × γ} (k : K (iz t x.2.2) Θ) : Ops fr Θ (rIxT Kf) (iz (z3 r s t) x) (iz zI 2) K := fun F H v w ok hv hw Q q => by
  obtain ⟨a, u, z, y, rfl, h2, h3, h4, h5⟩ := hv
  exact ⟨a, _, 2, y, rfl, hw, SqT.of (ok.fh _ _ h2), rfl, q.go k ok h5⟩
/-- either kind of subscript -/
theorem ops_ix {Kf : PySem.W.Frag} {p q : Vp} (h : Ops fr Θ (rIxL Kf) p q K ∨ Ops fr Θ (rIxT Kf) p q K ∨ Ops fr Θ rIxS p q K) : Ops fr Θ (rIx Kf) p q K := fun F H v w ok hv hw Q k =>
  h.elim (fun h => .inl (h F H v w ok hv hw Q k)) fun h => .inr (h.elim (fun h => .inl (h F H v w ok hv hw Q k)) fun h => .inr (h F H v w ok hv hw Q k))
theorem ops_ixS {z : Str} {n : Int} {c : Nat} (hl : z.length ≤ sizeLine) (e : atI z.cps.toList n = some c) (k : K (iz zS ⟨#[c]⟩) Θ) : Ops fr Θ rIxS (iz zS z) (iz zI n) K := fun F H v w ok hv hw Q q => by
  obtain ⟨hv, ha⟩ := hv
  refine ⟨z, n, c, hv, hw, hl, e, q.go k ok ⟨rfl, Asc.one (ha c ?_)⟩⟩
  unfold atI at e
  cases j : ixN z.cps.toList.length n with
  | none => rw [j] at e; cases e
  | some j' =>
    rw [j] at e
    exact List.mem_of_getElem? e
/-! displays -/
def TupR (ps : List Vp) (q : Vp) : Prop := ∀ F a vs, F a = some (HO.tup vs) → Paired (fun (p : Vp) v => p.p F v) ps vs → q.p F (.ref a)
theorem small_len {α β : Type} {R : α → β → Prop} {l : List α} {m : List β} (h : Paired R l m) (hl : l.length ≤ 1000) : m.length ≤ sizeLine := by
  rw [← Paired.len h]
  exact Nat.le_of_lt (small1000 hl)
theorem ps_mono {ps : List Vp} {vs : List V} (e : Same F F') (h : Paired (fun (p : Vp) v => p.p F v) ps vs) : Paired (fun (p : Vp) v => p.p F' v) ps vs := Paired.imp2 (fun p _ h => p.mono e h) h
theorem we_tup {t : TA} (w : Wa fr Γ Θ t fun ps Θ1 => ps.length ≤ 1000 ∧ ∃ q, TupR ps q ∧ K q Θ1) : We fr Γ Θ (tTup t) K := fun σ F H ok env Q q =>
  w σ F H ok env _ fun ps Θ1 ⟨hl, p, tr, k⟩ vs F1 H1 s1 ok1 hps => ⟨small_len hps hl, fun a na => (q.mono s1).new k ok1 na (tr _ a vs upd_same (ps_mono (ok1.sameF na) hps))⟩
theorem tr2 {α β : Type} {r : Rep α} {s : Rep β} {x : α} {y : β} : TupR [iz r x, iz s y] (iz (z2 r s) (x, y)) := fun F a vs h hp => by
  cases hp with
  | cons h1 hp => cases hp with
    | cons h2 hp => cases hp with
      | nil => exact ⟨a, _, _, rfl, h, h1, h2⟩
theorem tr3 {α β γ : Type} {r : Rep α} {s : Rep β} {t : Rep γ} {x : α} {y : β} {z : γ} : TupR [iz r x, iz s y, iz t z] (iz (z3 r s t) (x, y, z)) := fun F a vs h hp => by
  cases hp with
  | cons h1 hp => cases hp with
    | cons h2 hp => cases hp with
      | cons h3 hp => cases hp with
        | nil => exact ⟨a, _, _, _, rfl, h, h1, h2, h3⟩
theorem pvs_map {α : Type} {r : Rep α} {vs : List V} : ∀ {xs : List α}, Paired (fun (p : Vp) v => p.p F v) (xs.map (iz r)) vs → PVs r F vs xs := fun {xs} h => by
  induction xs generalizing vs with
  | nil => cases h; exact .nil
  | cons x xs ih => cases h with
    | cons a b => exact .cons a (ih b)
theorem trT {α : Type} {r : Rep α} (xs : List α) : TupR (xs.map (iz r)) (iz (zT r) xs) := fun F a vs h hp => ⟨a, vs, rfl, h, pvs_map hp⟩
/-- a list, frozen -/
theorem we_lst {α : Type} {r : Rep α} {t : TA} (w : Wa fr Γ Θ t fun ps Θ1 => ∃ xs : List α, ps = xs.map (iz r) ∧ ps.length ≤ 1000 ∧ K (iz (zL r) xs) Θ1) : We fr Γ Θ (tLst t) K := fun σ F H ok env Q q =>
  w σ F H ok env _ fun ps Θ1 ⟨xs, e, hl, k⟩ vs F1 H1 s1 ok1 hps => ⟨small_len hps hl, fun a na => by
    subst e
    exact (q.mono s1).new k ok1 na ⟨a, vs, rfl, upd_same, pvs_map (ps_mono (ok1.sameF na) hps)⟩⟩
/-- a list, one's own -/
theorem we_own {α : Type} (r : Rep α) {t : TA} (w : Wa fr Γ Θ t fun ps Θ1 => ∃ xs : List α, ps = xs.map (iz r) ∧ ps.length ≤ 1000 ∧ ∀ a, K (zAt a) (cL a r xs :: Θ1)) : We fr Γ Θ (tLst t) K := fun σ F H ok env Q q =>
  w σ F H ok env _ fun ps Θ1 ⟨xs, e, hl, k⟩ vs F1 H1 s1 ok1 hps => ⟨small_len hps hl, fun a na => by
    subst e
    exact q _ _ (k a) _ F1 _ s1 (ok1.mkOwn (c := cL a r xs) na rfl ⟨vs, rfl, pvs_map hps⟩) rfl⟩
/-! built-in calls -/
theorem cb_len {Kf : PySem.W.Frag} {α : Type} {r : Rep α} {xs : List α} {p : Vp} (h : SeqP fr Θ p r xs) (k : K (iz zI xs.length) Θ) : Cbs fr Θ (rLenQ Kf) [p] K := fun F H vs ok hps Q q => by
  cases hps with
  | cons h1 hp => cases hp with
    | nil =>
      obtain ⟨a, us, rfl, h2, h3⟩ := h F H _ ok h1
      refine ⟨a, us, rfl, sq_or h2, ?_⟩
      rw [Paired.len h3]
      exact q.go k ok rfl
theorem cb_lenS {z : Str} (hl : z.length ≤ sizeLine) (k : K (iz zI z.length) Θ) : Cbs fr Θ (fun xs H Q => ∃ z, xs = [.str z] ∧ z.length ≤ sizeLine ∧ Q (.int z.length) H) [iz zS z] K := fun F H vs ok hps Q q => by
  cases hps with
  | cons h1 hp => cases hp with
    | nil => exact ⟨z, by rw [h1.1], hl, q.go k ok rfl⟩
theorem cb_list {Kf : PySem.W.Frag} {α : Type} {r : Rep α} {xs : List α} {p : Vp} (h : SeqP fr Θ p r xs) (k : K (iz (zL r) xs) Θ) : Cbs fr Θ (rListQ Kf) [p] K := fun F H vs ok hps Q q => by
  cases hps with
  | cons h1 hp => cases hp with
    | nil =>
      obtain ⟨a, us, rfl, h2, h3⟩ := h F H _ ok h1
      exact ⟨a, us, rfl, sq_or h2, fun l nl => q.new k ok nl ⟨l, us, rfl, upd_same, Paired.imp2 (fun _ _ h => r.mono (ok.sameF nl) h) h3⟩⟩
theorem cb_tuple {Kf : PySem.W.Frag} {α : Type} {r : Rep α} {xs : List α} {p : Vp} (h : ∀ F H v, OkF fr Θ F H → p.p F v → ∃ a vs, v = .ref a ∧ (H a = some (.lst vs) ∨ F a = some (.tup vs)) ∧ PVs r F vs xs) (k : K (iz (zT r) xs) Θ) : Cbs fr Θ (rTupQ Kf) [p] K := fun F H vs ok hps Q q => by
  cases hps with
  | cons h1 hp => cases hp with
    | nil =>
      obtain ⟨a, us, rfl, h2, h3⟩ := h F H _ ok h1
      refine ⟨a, us, rfl, ?_⟩
      rcases h2 with h2 | h2
      · exact .inl ⟨SqL.of h2, fun l nl => q.new k ok nl ⟨l, us, rfl, upd_same, Paired.imp2 (fun _ _ h => r.mono (ok.sameF nl) h) h3⟩⟩
      · exact .inr ⟨SqT.of (ok.fh _ _ h2), q.go k ok ⟨a, us, rfl, h2, h3⟩⟩
theorem cb_tupleL {Kf : PySem.W.Frag} {α : Type} {r : Rep α} {xs : List α} (k : K (iz (zT r) xs) Θ) : Cbs fr Θ (rTupQ Kf) [iz (zL r) xs] K := cb_tuple (fun F H v ok ⟨a, vs, h1, h2, h3⟩ => ⟨a, vs, h1, .inl (ok.fh _ _ h2), h3⟩) k
theorem cb_tupleT {Kf : PySem.W.Frag} {α : Type} {r : Rep α} {xs : List α} (k : K (iz (zT r) xs) Θ) : Cbs fr Θ (rTupQ Kf) [iz (zT r) xs] K := cb_tuple (fun F H v ok ⟨a, vs, h1, h2, h3⟩ => ⟨a, vs, h1, .inr h2, h3⟩) k
theorem cb_tupleC {Kf : PySem.W.Frag} {α : Type} {r : Rep α} {xs : List α} {a : Addr} (hc : cL a r xs ∈ Θ) (k : K (iz (zT r) xs) Θ) : Cbs fr Θ (rTupQ Kf) [zAt a] K := cb_tuple (fun F H v ok hv => by
  obtain ⟨_, ⟨o, h2, vs, rfl, h4⟩, _⟩ := ok.ce _ hc
  exact ⟨a, vs, hv, .inl h2, h4⟩) k
theorem cb_any {Kf : PySem.W.Frag} {xs : List Bool} (k : K (iz zB (xs.any id)) Θ) : Cbs fr Θ (rAny Kf) [iz (zL zB) xs] K := fun F H vs ok hps Q q => by
  cases hps with
  | cons h1 hp => cases hp with
    | nil =>
      obtain ⟨a, us, rfl, h2, h3⟩ := h1
      have := pvs_B h3
      subst this
      exact ⟨a, xs, rfl, SqL.of (ok.fh _ _ h2), q.go k ok rfl⟩
theorem cb_all {Kf : PySem.W.Frag} {xs : List Bool} (k : K (iz zB (xs.all id)) Θ) : Cbs fr Θ (rAll Kf) [iz (zL zB) xs] K := fun F H vs ok hps Q q => by
  cases hps with
  | cons h1 hp => cases hp with
    | nil =>
      obtain ⟨a, us, rfl, h2, h3⟩ := h1
      have := pvs_B h3
      subst this
      exact ⟨a, xs, rfl, SqL.of (ok.fh _ _ h2), q.go k ok rfl⟩
theorem cb_sum {Kf : PySem.W.Frag} {xs : List Int} (k : K (iz zI xs.sum) Θ) : Cbs fr Θ (rSum Kf) [iz (zL zI) xs] K := fun F H vs ok hps Q q => by
  cases hps with
  | cons h1 hp => cases hp with
    | nil =>
      obtain ⟨a, us, rfl, h2, h3⟩ := h1
      have := pvs_I h3
      subst this
      exact ⟨a, xs, rfl, SqL.of (ok.fh _ _ h2), q.go k ok rfl⟩
theorem cb_int {n : Int} (k : K (iz zI n) Θ) : Cbs fr Θ (fun xs H Q => (∃ i, xs = [.int i] ∧ Q (.int i) H) ∨ ∃ k, xs = [.bl k] ∧ Q (.int (if k then 1 else 0)) H) [iz zI n] K := fun F H vs ok hps Q q => by
  cases hps with
  | cons h1 hp => cases hp with
    | nil =>
      have h1 : _ = V.int n := h1
      subst h1
      exact .inl ⟨n, rfl, q.go k ok rfl⟩
theorem cb_abs {n : Int} (k : K (iz zI (if n < 0 then -n else n)) Θ) : Cbs fr Θ (fun xs H Q => ∃ i, xs = [.int i] ∧ Q (.int (if i < 0 then -i else i)) H) [iz zI n] K := fun F H vs ok hps Q q => by
  cases hps with
  | cons h1 hp => cases hp with
    | nil =>
      have h1 : _ = V.int n := h1
      subst h1
      exact ⟨n, rfl, q.go k ok rfl⟩
/-! slices, + -/
def cutX {α : Type} (xs : List α) (lo hi : Option Int) : List α := (xs.drop (HT.sIx xs.length 0 lo)).take (HT.sIx xs.length xs.length hi - HT.sIx xs.length 0 lo)
theorem pvs_cut {α : Type} {r : Rep α} {vs : List V} {xs : List α} {lo hi : Option Int} (h : PVs r F vs xs) : PVs r F (cutV vs lo hi) (cutX xs lo hi) := by
  unfold cutV cutX
  rw [Paired.len h]
  exact Paired.take _ (Paired.drop _ h)
theorem sls_L {Kf : PySem.W.Frag} {α : Type} {r : Rep α} {xs : List α} {lo hi : Option Int} (k : K (iz (zL r) (cutX xs lo hi)) Θ) : Sls fr Θ (rSlL Kf) (iz (zL r) xs) lo hi K := fun F H v ok hv Q q => by
  obtain ⟨a, vs, rfl, h2, h3⟩ := hv
  exact ⟨a, vs, rfl, SqL.of (ok.fh _ _ h2), fun l nl => q.new k ok nl ⟨l, _, rfl, upd_same, Paired.imp2 (fun _ _ h => r.mono (ok.sameF nl) h) (pvs_cut h3)⟩⟩
theorem ops_cat {α : Type} {r : Rep α} {xs ys : List α} (hl : xs.length + ys.length ≤ sizeLine) (k : K (iz (zL r) (xs ++ ys)) Θ) : Ops fr Θ rCat (iz (zL r) xs) (iz (zL r) ys) K := fun F H v w ok hv hw Q q => by
  obtain ⟨a, vs, rfl, h2, h3⟩ := hv
  obtain ⟨b, us, rfl, h4, h5⟩ := hw
  exact ⟨a, b, vs, us, rfl, rfl, ok.fh _ _ h2, ok.fh _ _ h4, by rw [Paired.len h3, Paired.len h5]; exact hl, fun l nl => q.new k ok nl ⟨l, _, rfl, upd_same, Paired.imp2 (fun _ _ h => r.mono (ok.sameF nl) h) (Paired.app h3 h5)⟩⟩
/-! ### walked things -/
def Newer (F H F' : Hp) : Prop := ∀ a o, F' a = some o → (∃ o', F a = some o') ∨ H a = none
theorem Newer.refl (F H : Hp) : Newer F H F := fun _ o h => .inl ⟨o, h⟩
/-- the iterator J gives the things its, as long as F stands -/
def JOk (J : It) (F : Hp) (its : List Vp) : Prop := ∀ F1 H1, Same F F1 → Same F1 H1 → (∀ i p, its[i]? = some p → J.go i H1 ∧ ∀ x H2, J.yld i H1 x H2 → ∃ F2, Same F1 F2 ∧ Same H1 H2 ∧ Same F2 H2 ∧ Newer F1 H1 F2 ∧ p.p F2 x) ∧ J.stop its.length H1
def Wi (fr : Fr) (Γ : Gam) (Θ : List Cel) (wi : TI) (K : List Vp → List Cel → Prop) : Prop := ∀ σ F H, OkF fr Θ F H → EnvF Γ σ F → ∀ R : It → Hp → Prop, (∀ its Θ', K its Θ' → ∀ J F' H', Same F F' → OkF fr Θ' F' H' → JOk J F' its → R J H') → wi σ H R
theorem get_izs {α : Type} {r : Rep α} {xs : List α} {i : Nat} {p : Vp} (h : (xs.map (iz r))[i]? = some p) : ∃ x, xs[i]? = some x ∧ p = iz r x := by
  rw [List.getElem?_map] at h
  obtain ⟨x, hx, e⟩ := Option.map_eq_some_iff.mp h
  exact ⟨x, hx, e.symm⟩
theorem wi_list {Kf : PySem.W.Frag} {tl : TE} {K : List Vp → List Cel → Prop} (w : We fr Γ Θ tl fun p Θ1 => ∃ (α : Type) (r : Rep α) (xs : List α), p = iz (zL r) xs ∧ K (xs.map (iz r)) Θ1) : Wi fr Γ Θ (iList Kf tl) K := fun σ F H ok env R q =>
  w σ F H ok env _ fun p Θ1 ⟨α, r, xs, e, k⟩ v F1 H1 s1 ok1 hp => by
    subst e
    obtain ⟨a, vs, rfl, h2, h3⟩ := hp
    refine ⟨a, rfl, ⟨_, SqL.of (ok1.fh _ _ h2)⟩, q _ Θ1 k _ F1 H1 s1 ok1 fun F2 H2 s2 fh => ⟨fun i p hi => ?_, ?_⟩⟩
    · obtain ⟨x, hx, rfl⟩ := get_izs hi
      obtain ⟨u, hu, hux⟩ := Paired.get' h3 hx
      have sq : SqL Kf H2 a vs := SqL.of (fh _ _ (s2 _ _ h2))
      refine ⟨⟨vs, u, sq, hu⟩, fun y H3 ⟨e, hy⟩ => ?_⟩
      subst e
      have hy := hy vs sq
      rw [hu] at hy
      cases hy
      exact ⟨F2, Same.refl _, Same.refl _, fh, Newer.refl _ _, r.mono s2 hux⟩
    · rw [List.length_map, ← Paired.len h3]
      exact ⟨vs, SqL.of (fh _ _ (s2 _ _ h2)), Nat.le_refl _⟩
theorem wi_tup {Kf : PySem.W.Frag} {tl : TE} {K : List Vp → List Cel → Prop} (w : We fr Γ Θ tl fun p Θ1 => ∃ (α : Type) (r : Rep α) (xs : List α), p = iz (zT r) xs ∧ K (xs.map (iz r)) Θ1) : Wi fr Γ Θ (iTup Kf tl) K := fun σ F H ok env R q =>
  w σ F H ok env _ fun p Θ1 ⟨α, r, xs, e, k⟩ v F1 H1 s1 ok1 hp => by
    subst e
    obtain ⟨a, vs, rfl, h2, h3⟩ := hp
    refine ⟨a, rfl, ⟨_, SqT.of (ok1.fh _ _ h2)⟩, q _ Θ1 k _ F1 H1 s1 ok1 fun F2 H2 s2 fh => ⟨fun i p hi => ?_, ?_⟩⟩
    · obtain ⟨x, hx, rfl⟩ := get_izs hi
      obtain ⟨u, hu, hux⟩ := Paired.get' h3 hx
      have sq : SqT Kf H2 a vs := SqT.of (fh _ _ (s2 _ _ h2))
      refine ⟨⟨vs, u, sq, hu⟩, fun y H3 ⟨e, hy⟩ => ?_⟩
      subst e
      have hy := hy vs sq
      rw [hu] at hy
      cases hy
      exact ⟨F2, Same.refl _, Same.refl _, fh, Newer.refl _ _, r.mono s2 hux⟩
    · rw [List.length_map, ← Paired.len h3]
      exact ⟨vs, SqT.of (fh _ _ (s2 _ _ h2)), Nat.le_refl _⟩
def intsF (lo : Int) (n : Nat) : List Int := (List.range n).map fun i : Nat => lo + (i : Int)
theorem intsF_get {lo : Int} {n i : Nat} {x : Int} (h : (intsF lo n)[i]? = some x) : i < n ∧ x = lo + i := by
  unfold intsF at h
  rw [List.getElem?_map] at h
  obtain ⟨j, hj, e⟩ := Option.map_eq_some_iff.mp h
  rcases Nat.lt_or_ge i n with h | h
  · rw [List.getElem?_range h] at hj
    cases hj
    exact ⟨h, e.symm⟩
  · rw [List.getElem?_eq_none (by rw [List.length_range]; exact h)] at hj
    cases hj
theorem intsF_len (lo : Int) (n : Nat) : (intsF lo n).length = n := by
  unfold intsF
  rw [List.length_map, List.length_range]
theorem jok_r (lo : Int) (n : Nat) : JOk (Itr lo n) F ((intsF lo n).map (iz zI)) := fun F2 H2 s2 fh => ⟨fun i p hi => by
    obtain ⟨x, hx, rfl⟩ := get_izs hi
    obtain ⟨h1, rfl⟩ := intsF_get hx
    exact ⟨h1, fun y H3 ⟨e, hy⟩ => by
      subst e
      exact ⟨F2, Same.refl _, Same.refl _, fh, Newer.refl _ _, hy⟩⟩, by
    rw [List.length_map, intsF_len]
    exact Nat.le_refl _⟩
theorem wi_range {ta : TA} {K : List Vp → List Cel → Prop} (w : Wa fr Γ Θ ta fun ps Θ1 => ∃ n : Int, ps = [iz zI n] ∧ -(2 ^ 62) ≤ n ∧ n < 2 ^ 62 ∧ K ((intsF 0 n.toNat).map (iz zI)) Θ1) : Wi fr Γ Θ (iRng1 ta) K := fun σ F H ok env R q =>
  w σ F H ok env _ fun ps Θ1 ⟨n, e, b1, b2, k⟩ vs F1 H1 s1 ok1 hps => by
    subst e
    cases hps with
    | cons h1 hp => cases hp with
      | nil =>
        have h1 : _ = V.int n := h1
        subst h1
        exact ⟨n, rfl, b1, b2, q _ Θ1 k _ F1 H1 s1 ok1 (jok_r 0 n.toNat)⟩
theorem wi_range2 {ta : TA} {K : List Vp → List Cel → Prop} (w : Wa fr Γ Θ ta fun ps Θ1 => ∃ m n : Int, ps = [iz zI m, iz zI n] ∧ (-(2 ^ 62) ≤ m ∧ m < 2 ^ 62 ∧ -(2 ^ 62) ≤ n ∧ n < 2 ^ 62) ∧ K ((intsF m (n - m).toNat).map (iz zI)) Θ1) : Wi fr Γ Θ (iRng2 ta) K := fun σ F H ok env R q =>
  w σ F H ok env _ fun ps Θ1 ⟨m, n, e, b, k⟩ vs F1 H1 s1 ok1 hps => by
    subst e
    cases hps with
    | cons h1 hp => cases hp with
      | cons h2 hp => cases hp with
        | nil =>
          have h1 : _ = V.int m := h1
          have h2 : _ = V.int n := h2
          subst h1 h2
          exact ⟨m, n, rfl, b, q _ Θ1 k _ F1 H1 s1 ok1 (jok_r m _)⟩
/-! loops -/
/-- a finer start: more is frozen -/
structure FrLe (fr fr' : Fr) : Prop where
  h : fr'.H0 = fr.H0
  b : fr'.B = fr.B
  f : Same fr.F0 fr'.F0
  n : ∀ a o, fr'.F0 a = some o → (∃ o', fr.F0 a = some o') ∨ fr.H0 a = none
theorem OkF.le {fr' : Fr} (ok : OkF fr' Θ F H) (l : FrLe fr fr') : OkF fr Θ F H := by
  obtain ⟨a1, a2, a3, a4⟩ := l
  refine ⟨ok.fh, a3.trans ok.f0, fun a o h => ?_, fun a o hB h => ok.h0 a o (by rw [a2]; exact hB) (by rw [a1]; exact h), fun a o h => ok.al a o (by rw [a1]; exact h), ok.nd, fun c hc => ?_⟩
  · rcases ok.nw a o h with ⟨o', h'⟩ | h'
    · exact a4 a o' h'
    · exact .inr (by rw [a1] at h'; exact h')
  · have := ok.ce c hc
    rw [a1, a2] at this
    exact this
theorem OkF.fine {F1 H1 : Hp} {Θ1 : List Cel} (ok1 : OkF fr Θ1 F1 H1) : FrLe fr ⟨F1, fr.H0, fr.B⟩ := ⟨rfl, rfl, ok1.f0, ok1.nw⟩
theorem FrLe.trans {fr1 fr2 : Fr} (x : FrLe fr fr1) (y : FrLe fr1 fr2) : FrLe fr fr2 := ⟨y.h.trans x.h, y.b.trans x.b, x.f.trans y.f, fun a o h => (y.n a o h).elim (fun ⟨o', h'⟩ => x.n a o' h') fun h' => .inr (by rw [x.h] at h'; exact h')⟩
theorem Kn.fine {fr' : Fr} {P : L2.St → Hp → Prop} (k : Kn fr Γ Θ P) (l : FrLe fr fr') : Kn fr' Γ Θ P := fun σ F H ok env => k σ F H (ok.le l) env
theorem Rt.fine {fr' : Fr} {rt : VK} {p : Vp} (k : Rt fr Θ rt p) (l : FrLe fr fr') : Rt fr' Θ rt p := fun v F H ok h => k v F H (ok.le l) h
theorem kn_for {wi : TI} {g : TG} {tb : TS} {D : Ends} (w : Wi fr Γ Θ wi fun its Θ1 => ∃ I : Nat → Gam → List Cel → Prop, (∃ Γ0, GLe Γ Γ0 ∧ I 0 Γ0 Θ1) ∧
    (∀ fr', FrLe fr fr' → ∀ i p Γ1 Θ2, its[i]? = some p → I i Γ1 Θ2 → ∃ vs Γ2, TgR g vs p Γ1 Γ2 ∧ Kn fr' Γ2 Θ2 (tb { D with nx := Mid fr' (I (i + 1)), ct := Mid fr' (I (i + 1)), bk := D.nx })) ∧ ∀ Γ1 Θ2, I its.length Γ1 Θ2 → Kn fr Γ1 Θ2 D.nx) : Kn fr Γ Θ (tFor wi g tb D) := fun σ F H ok env =>
  w σ F H ok env _ fun its Θ1 ⟨I, ⟨Γ0, l0, i0⟩, hs, hd⟩ J F1 H1 s1 ok1 jok => by
    have le := ok1.fine
    have up : ∀ {Θ2 : List Cel} {F2 H2 : Hp}, OkF fr Θ2 F2 H2 → Same F1 F2 → OkF ⟨F1, fr.H0, fr.B⟩ Θ2 F2 H2 := fun ok s => ⟨ok.fh, s, fun a o h => (ok.nw a o h).elim (fun ⟨o', h'⟩ => .inl ⟨o', ok1.f0 _ _ h'⟩) .inr, ok.h0, ok.al, ok.nd, ok.ce⟩
    refine ⟨fun i m σ' H' => m = its.length - i ∧ i ≤ its.length ∧ Mid ⟨F1, fr.H0, fr.B⟩ (I i) σ' H', ⟨its.length, by simp, Nat.zero_le _, Γ0, Θ1, F1, i0, up ok1 (Same.refl _), (env.mono s1).le l0⟩, ?_⟩
    rintro i m σ' H' ⟨rfl, hi, Γ2, Θ2, F2, hI, ok2, env2⟩
    obtain ⟨j1, j2⟩ := jok F2 H' ok2.f0 ok2.fh
    by_cases hlt : i < its.length
    · obtain ⟨jg, jy⟩ := j1 i its[i] (List.getElem?_eq_getElem hlt)
      refine .inr ⟨jg, Mid ⟨F1, fr.H0, fr.B⟩ (I (i + 1)), fun σ3 H3 p => ⟨its.length - (i + 1), by omega, rfl, hlt, p⟩, fun x H3 y => ?_⟩
      obtain ⟨F3, e1, e2, e3, e4, e5⟩ := jy x H3 y
      have ok3 := ok2.grow e2 e1 e3 e4
      obtain ⟨vs, Γ4, tg, kn⟩ := hs _ le i _ Γ2 Θ2 (List.getElem?_eq_getElem hlt) hI
      exact tg σ' F3 H3 x ok3.fh (env2.mono e1) e5 _ fun σ4 env4 _ => kn σ4 F3 H3 ok3 env4
    · have e : i = its.length := by omega
      subst e
      exact .inl ⟨j2, hd Γ2 Θ2 hI σ' F2 H' (ok2.le le) env2⟩
/-- an invariant by a state s: the names hold G s, the cells T s -/
def InvS {S : Type} (G : S → Gam) (T : S → List Cel) (P : Nat → S → Prop) (i : Nat) (Γ : Gam) (Θ : List Cel) : Prop := ∃ s, P i s ∧ Γ = G s ∧ Θ = T s
theorem kn_back {S : Type} {G : S → Gam} {T : S → List Cel} {P : Nat → S → Prop} {i : Nat} (s : S) (l : GLe Γ (G s)) (h : P i s) (e : Θ = T s) : Kn fr Γ Θ (Mid fr (InvS G T P i)) := kn_mid ⟨G s, l, s, h, rfl, e⟩
/-- for x in a walked thing, the entries xs known -/
theorem kn_forS {α S : Type} {r : Rep α} {xs : List α} {wi : TI} {g : TG} {tb : TS} {D : Ends} (G : S → Gam) (T : S → List Cel) (P : Nat → S → Prop) (s0 : S) {vs : List Nat} {Γ2 : α → S → Gam} (it : Wi fr Γ Θ wi fun its Θ1 => its = xs.map (iz r) ∧ Θ1 = T s0) (l0 : GLe Γ (G s0)) (h0 : P 0 s0)
    (tg : ∀ x s, TgR g vs (iz r x) (G s) (Γ2 x s))
    (hs : ∀ fr', FrLe fr fr' → ∀ i x s, xs[i]? = some x → P i s → Kn fr' (Γ2 x s) (T s) (tb { D with nx := Mid fr' (InvS G T P (i + 1)), ct := Mid fr' (InvS G T P (i + 1)), bk := D.nx }))
    (hd : ∀ s, P xs.length s → Kn fr (G s) (T s) D.nx) : Kn fr Γ Θ (tFor wi g tb D) := by
  refine kn_for fun σ F H ok env R q => it σ F H ok env R fun its Θ1 ⟨e1, e2⟩ => q its Θ1 ?_
  subst e1 e2
  refine ⟨InvS G T P, ⟨G s0, l0, s0, h0, rfl, rfl⟩, fun fr' le i p Γ1 Θ2 hi ⟨s, hP, eg, et⟩ => ?_, fun Γ1 Θ2 ⟨s, hP, eg, et⟩ => ?_⟩
  · subst eg et
    obtain ⟨x, hx, rfl⟩ := get_izs hi
    exact ⟨vs, _, tg x s, hs fr' le i x s hx hP⟩
  · subst eg et
    rw [List.length_map] at hP
    exact hd s hP
/-! while -/
theorem kn_while {S : Type} {c : TT} {tb : TS} {D : Ends} (G : S → Gam) (T : S → List Cel) (P : S → Prop) (μ : S → Nat) (s0 : S) (l0 : GLe Γ (G s0)) (e0 : Θ = T s0) (h0 : P s0)
    (hs : ∀ s, P s → ∃ b : Bool, Et fr (G s) (T s) c b ∧ (b = true → Kn fr (G s) (T s) (tb { D with nx := Mid fr (InvS G T (fun m s' => P s' ∧ μ s' < m) (μ s)), ct := Mid fr (InvS G T (fun m s' => P s' ∧ μ s' < m) (μ s)), bk := D.nx })) ∧ (b = false → Kn fr (G s) (T s) D.nx)) : Kn fr Γ Θ (tWhile c tb D) := fun σ F H ok env => by
  subst e0
  refine ⟨fun m σ' H' => ∃ s F', P s ∧ m = μ s ∧ OkF fr (T s) F' H' ∧ EnvF (G s) σ' F', ⟨μ s0, s0, F, h0, rfl, ok, env.le l0⟩, ?_⟩
  rintro m σ1 H1 ⟨s, F1, hP, rfl, ok1, env1⟩
  obtain ⟨b, hb, h1, h2⟩ := hs s hP
  refine hb σ1 F1 H1 ok1 env1 _ fun b' Θ' ⟨e1, e2⟩ F2 H2 s2 ok2 => ?_
  subst e1 e2
  cases b' with
  | true =>
    rw [if_pos rfl]
    refine ⟨_, ?_, h1 rfl σ1 F2 H2 ok2 (env1.mono s2)⟩
    rintro σ3 H3 ⟨Γ3, Θ3, F3, ⟨s3, ⟨hP3, lt⟩, rfl, rfl⟩, ok3, env3⟩
    exact ⟨μ s3, lt, s3, F3, hP3, rfl, ok3, env3⟩
  | false =>
    rw [if_neg Bool.false_ne_true]
    exact h2 rfl σ1 F2 H2 ok2 (env1.mono s2)
/-! comprehensions -/
def wipeG (Γ : Gam) : List Nat → Gam
  | [] => Γ
  | v :: vs => (wipeG Γ vs).set v none
theorem EnvF.wipe {σ : L2.St} (h : EnvF Γ σ F) : ∀ vs, EnvF (wipeG Γ vs) (L2.wipe σ vs) F
  | [] => h
  | v :: vs => (EnvF.wipe h vs).drop
theorem wipe_get (σ : L2.St) (j : Nat) : ∀ vs : List Nat, (L2.wipe σ vs)[j]? = if j ∈ vs ∧ j < σ.length then some none else σ[j]?
  | [] => by simp [L2.wipe]
  | v :: vs => by
    unfold L2.wipe
    rw [List.getElem?_set, wipe_get σ j vs, wipe_length]
    by_cases h : v = j
    · subst h
      by_cases h2 : v < σ.length
      · rw [if_pos rfl, if_pos h2, if_pos ⟨List.mem_cons_self .., h2⟩]
      · rw [if_pos rfl, if_neg h2, if_neg (fun q => h2 q.2), List.getElem?_eq_none (by omega)]
    · rw [if_neg h]
      by_cases h2 : j ∈ vs ∧ j < σ.length
      · rw [if_pos h2, if_pos ⟨List.mem_cons_of_mem _ h2.1, h2.2⟩]
      · rw [if_neg h2, if_neg (fun q => h2 ⟨(List.mem_cons.mp q.1).resolve_left (fun e => h e.symm), q.2⟩)]
theorem wipe_idem (σ : L2.St) (vs : List Nat) : L2.wipe (L2.wipe σ vs) vs = L2.wipe σ vs := by
  apply List.ext_getElem?
  intro j
  rw [wipe_get, wipe_length, wipe_get]
  split <;> rfl
/-- [e for x in xs if c]: each entry is found by its own way; R says what it may be -/
theorem we_lcR {α β : Type} {r : Rep α} {s : Rep β} {xs : List α} {pr : α → Bool} {R : α → β → Prop} {wi : TI} {g : TG} {tt : TT} {te : TE} {vs : List Nat} {Γ2 : α → Gam}
    (it : Wi fr Γ Θ wi fun its Θ1 => its = xs.map (iz r) ∧ Θ1 = Θ) (hl : xs.length ≤ 1000) (tg : ∀ x, TgR g vs (iz r x) (wipeG Γ vs) (Γ2 x)) (ht : ∀ x ∈ xs, ∀ c, Et fr (Γ2 x) (c :: Θ) tt (pr x))
    (he : ∀ x ∈ xs, pr x = true → ∀ c, We fr (Γ2 x) (c :: Θ) te fun q Θ' => Θ' = c :: Θ ∧ ∃ y, R x y ∧ q = iz s y) (k : ∀ ys, Paired R (xs.filter pr) ys → K (iz (zL s) ys) Θ) : We fr Γ Θ (tLc wi g tt te vs) K := fun σ F H ok env Q q => by
  refine it σ F H ok env _ fun its Θ1 ⟨e1, e2⟩ J F1 H1 s1 ok1 jok => ?_
  subst e1 e2
  intro D nD
  refine ⟨fun i m H' => m = xs.length - i ∧ i ≤ xs.length ∧ ∃ F2 ys, Same F1 F2 ∧ OkF fr (cL D s ys :: Θ1) F2 H' ∧ Paired R ((xs.take i).filter pr) ys, ⟨xs.length, by simp, Nat.zero_le _, F1, [], Same.refl _, ok1.mkOwn (c := cL D s []) nD rfl ⟨[], rfl, .nil⟩, .nil⟩, ?_⟩
  rintro i m H' ⟨rfl, hi, F2, ys, s2, ok2, py⟩
  obtain ⟨j1, j2⟩ := jok F2 H' s2 ok2.fh
  by_cases hlt : i < xs.length
  · have hx : xs[i]? = some xs[i] := List.getElem?_eq_getElem hlt
    generalize xs[i] = x at hx
    have hm := List.mem_of_getElem? hx
    obtain ⟨jg, jy⟩ := j1 i (iz r x) (by rw [List.getElem?_map, hx]; rfl)
    refine .inr ⟨jg, fun H3 => ∃ F3 ys, Same F1 F3 ∧ OkF fr (cL D s ys :: Θ1) F3 H3 ∧ Paired R ((xs.take (i + 1)).filter pr) ys, fun H3 p => ⟨xs.length - (i + 1), by omega, rfl, hlt, p⟩, fun v H3 y => ?_⟩
    obtain ⟨F3, e1, e2, e3, e4, e5⟩ := jy v H3 y
    have ok3 := ok2.grow e2 e1 e3 e4
    have s3 := s2.trans e1
    refine tg x (L2.wipe σ vs) F3 H3 v ok3.fh ((env.mono (s1.trans s3)).wipe vs) e5 _ fun σ2 env2 hw => ⟨?_, ?_⟩
    · rw [hw, wipe_idem]
    · have et : (xs.take (i + 1)).filter pr = (xs.take i).filter pr ++ if pr x = true then [x] else [] := by
        rw [take_more hx, List.filter_append, List.filter_cons]
        rfl
      refine ht x hm _ σ2 F3 H3 ok3 env2 _ fun b Θ2 ⟨e6, e7⟩ F4 H4 s4 ok4 => ?_
      subst e6 e7
      by_cases hb : pr x = true
      · rw [if_pos hb]
        rw [if_pos hb] at et
        refine he x hm hb _ σ2 F4 H4 ok4 (env2.mono s4) _ fun p Θ3 ⟨e8, y, hR, e9⟩ u F5 H5 s5 ok5 hp => ?_
        subst e8 e9
        obtain ⟨_, ⟨o, h2, acc, rfl, h4⟩, _⟩ := ok5.ce _ (List.mem_cons_self ..)
        have ok6 := ok5.mut (i := 0) (c := cL D s ys) (c' := cL D s (ys ++ [y])) (o := .lst (acc ++ [u])) rfl rfl rfl ⟨_, rfl, PySem.Paired.snoc h4 hp⟩
        refine ⟨acc, h2, ?_, F5, ys ++ [y], (s3.trans s4).trans s5, ok6, ?_⟩
        · rw [Paired.len h4, ← Paired.len py]
          have := List.length_filter_le pr (xs.take i)
          rw [List.length_take] at this
          exact small1000 (by omega)
        · rw [et]
          exact PySem.Paired.snoc py hR
      · rw [if_neg hb]
        rw [if_neg hb, List.append_nil] at et
        exact ⟨F4, ys, s3.trans s4, ok4, by rw [et]; exact py⟩
  · have e : i = xs.length := by omega
    subst e
    rw [List.take_length] at py
    obtain ⟨_, ⟨o, h2, acc, rfl, h4⟩, _⟩ := ok2.ce _ (List.mem_cons_self ..)
    have ok3 := ok2.frz (i := 0) (c := cL D s ys) rfl rfl h2
    have sD : Same F2 (upd F2 D (.lst acc)) := same_upd (ok2.ce _ (List.mem_cons_self ..)).1
    refine .inl ⟨by rw [List.length_map] at j2; exact j2, q _ _ (k ys py) _ _ H' ((s1.trans s2).trans sD) ok3 ⟨D, acc, rfl, upd_same, Paired.imp2 (fun _ _ h => s.mono sD h) h4⟩⟩
theorem paired_map {α β : Type} {f : α → β} : ∀ {xs : List α} {ys : List β}, Paired (fun x y => y = f x) xs ys → ys = xs.map f
  | _, _, .nil => rfl
  | _, _, .cons h r => by rw [h, paired_map r]; rfl
theorem we_lc {α β : Type} {r : Rep α} {s : Rep β} {xs : List α} {pr : α → Bool} {f : α → β} {wi : TI} {g : TG} {tt : TT} {te : TE} {vs : List Nat} {Γ2 : α → Gam}
    (it : Wi fr Γ Θ wi fun its Θ1 => its = xs.map (iz r) ∧ Θ1 = Θ) (hl : xs.length ≤ 1000) (tg : ∀ x, TgR g vs (iz r x) (wipeG Γ vs) (Γ2 x)) (ht : ∀ x ∈ xs, ∀ c, Et fr (Γ2 x) (c :: Θ) tt (pr x))
    (he : ∀ x ∈ xs, pr x = true → ∀ c, Ev fr (Γ2 x) (c :: Θ) te (iz s (f x))) (k : K (iz (zL s) ((xs.filter pr).map f)) Θ) : We fr Γ Θ (tLc wi g tt te vs) K :=
  we_lcR (R := fun x y => y = f x) it hl tg ht (fun x hx hp c => (he x hx hp c).imp fun p Θ' ⟨e1, e2⟩ => ⟨e2, f x, rfl, e1⟩) fun ys h => by
    rw [paired_map h]
    exact k
theorem wt_yes {K : Bool → List Cel → Prop} (k : K true Θ) : Wt fr Γ Θ tYes K := fun σ F H ok env Q q => q true Θ k F H (Same.refl F) ok
end
end L2

set_option Elab.async false
set_option linter.all false
set_option maxRecDepth 100000
set_option maxHeartbeats 4000000
/-! The ground: errors, promises of defs and methods, fields, changes of cells, equality of data. -/
namespace L2
open PySem PySem.Spec PyProof.Rows PySem.HErr
/-- an error: its class, its fields -/
structure Er where
  C : Addr
  fs : List (Str × Vp)
def FsOk (F : Hp) (fs : List (Str × Vp)) (us : List (Str × V)) : Prop := Paired (fun (x : Str × Vp) (y : Str × V) => x.1 = y.1 ∧ x.2.p F y.2) fs us
theorem FsOk.mono {F F' : Hp} {fs : List (Str × Vp)} {us : List (Str × V)} (h : FsOk F fs us) (e : Same F F') : FsOk F' fs us := Paired.imp2 (fun x _ ⟨h1, h2⟩ => ⟨h1, x.2.mono e h2⟩) h
theorem FsOk.look {F : Hp} {f : Str} {p : Vp} : ∀ {fs : List (Str × Vp)} {us : List (Str × V)}, FsOk F fs us → fs.lookup f = some p → ∃ v, us.lookup f = some v ∧ p.p F v
  | _, _, .nil, h => by cases h
  | (a, q) :: fs, (b, u) :: us, .cons ⟨h1, h2⟩ r, h => by
    have h1 : a = b := h1
    subst h1
    rw [List.lookup_cons] at h ⊢
    cases e : (f == a) with
    | true =>
      rw [e] at h
      cases h
      exact ⟨u, rfl, h2⟩
    | false =>
      rw [e] at h
      exact FsOk.look r h
def Kr (fr : Fr) (Γ : Gam) (Θ : List Cel) (W : WX) (e : Er) : Prop := ∀ σ F H, OkF fr Θ F H → EnvF Γ σ F → ∀ d us, F d = some (.xd us) → FsOk F e.fs us → W (.ref e.C) (some d) σ H
/-- what a def raises -/
def Rse (fr : Fr) (E : XK) (err : Er → Prop) : Prop := ∀ e, err e → ∀ Θ F H d us, OkF fr Θ F H → F d = some (.xd us) → FsOk F e.fs us → E (.ref e.C) (some d) H
/-- what a def returns -/
def Ret (fr : Fr) (Q : VK) (out : Vp → Prop) : Prop := ∀ p, out p → ∀ Θ, Rt fr Θ Q p
def Sps (fr : Fr) (Γ : Gam) (Θ : List Cel) (sp : Sp) (E : L2.St → XK) (ps : List Vp) (K : Vp → List Cel → Prop) : Prop := ∀ σ F H vs, OkF fr Θ F H → EnvF Γ σ F → Paired (fun (p : Vp) v => p.p F v) ps vs → ∀ Q, Kq fr F K Q → sp vs H Q (E σ)
section
variable {fr : Fr} {Γ Γ' : Gam} {Θ : List Cel} {F F' H H' : Hp} {K : Vp → List Cel → Prop} {Q : VK}
theorem Rse.fine {fr' : Fr} {E : XK} {err : Er → Prop} (h : Rse fr E err) (l : FrLe fr fr') : Rse fr' E err := fun e he Θ F H d us ok => h e he Θ F H d us (ok.le l)
theorem Ret.fine {fr' : Fr} {out : Vp → Prop} (h : Ret fr Q out) (l : FrLe fr fr') : Ret fr' Q out := fun p hp Θ => (h p hp Θ).fine l
theorem we_callE {sp : Sp} {E : XK} {t : TA} (w : Wa fr Γ Θ t fun ps Θ1 => Sps fr Γ Θ1 sp (fun _ => E) ps K) : We fr Γ Θ (tCall sp [] E t) K := fun σ F H ok env Q q =>
  w σ F H ok env _ fun ps Θ1 k vs F1 H1 s1 ok1 hps => by
    rw [List.append_nil]
    exact k σ F1 H1 vs ok1 (env.mono s1) hps Q (q.mono s1)
theorem we_callS {sp : Sp} {E : L2.St → XK} {t : TA} (w : Wa fr Γ Θ t fun ps Θ1 => Sps fr Γ Θ1 sp E ps K) : We fr Γ Θ (tCallS sp E t) K := fun σ F H ok env Q q =>
  w σ F H ok env _ fun ps Θ1 k vs F1 H1 s1 ok1 hps => k σ F1 H1 vs ok1 (env.mono s1) hps Q (q.mono s1)
/-- an instance of the class at C, m no field of its own -/
def InsP (fr : Fr) (Θ : List Cel) (p : Vp) (C : Addr) (m : Str) : Prop := ∀ F H v, OkF fr Θ F H → p.p F v → ∃ a dx fs, v = .ref a ∧ H a = some (.ins C dx fs) ∧ fs.lookup m = none
theorem we_met {C : Addr} {m : Str} {sp : Sp} {E : L2.St → XK} {ta : TE} {t : TA} (w : We fr Γ Θ ta fun p Θ1 => InsP fr Θ1 p C m ∧ Wa fr Γ Θ1 t fun ps Θ2 => Sps fr Γ Θ2 sp E (p :: ps) K) : We fr Γ Θ (tMetD C m sp E ta t) K := fun σ F H ok env Q q =>
  w σ F H ok env _ fun p Θ1 ⟨ki, k⟩ v F1 H1 s1 ok1 hp => by
    obtain ⟨a, dx, fs, rfl, h2, h3⟩ := ki F1 H1 v ok1 hp
    exact ⟨a, dx, fs, rfl, h2, h3, k σ F1 H1 ok1 (env.mono s1) _ fun ps Θ2 k2 vs F2 H2 s2 ok2 hps => k2 σ F2 H2 _ ok2 ((env.mono s1).mono s2) (.cons (p.mono s2 hp) hps) Q (q.mono (s1.trans s2))⟩
/-! ### promises: pre tells, of the arguments, what may come out and what may be raised -/
def Post (F H : Hp) (Q : VK) (out : Vp → Prop) : Prop := ∀ p, out p → ∀ v F' H', Same H H' → Same F F' → Same F' H' → Newer F H F' → p.p F' v → Q v H'
def PErs (F H : Hp) (E : XK) (err : Er → Prop) : Prop := ∀ e, err e → ∀ F' H' d us, Same H H' → Same F F' → Same F' H' → Newer F H F' → F' d = some (.xd us) → FsOk F' e.fs us → E (.ref e.C) (some d) H'
abbrev Pre := List Vp → (Vp → Prop) → (Er → Prop) → Prop
def spA (pre : Pre) : Sp := fun vs H Q E => ∃ F ps out err, Same F H ∧ Paired (fun (p : Vp) v => p.p F v) ps vs ∧ pre ps out err ∧ Post F H Q out ∧ PErs F H E err
theorem sps_A {pre : Pre} {E : L2.St → XK} {ps : List Vp} {out : Vp → Prop} {err : Er → Prop} (hp : pre ps out err) (k : ∀ p, out p → K p Θ) (x : ∀ e, err e → Kr fr Γ Θ (fun cls d σ H => E σ cls d H) e) : Sps fr Γ Θ (spA pre) E ps K := fun σ F H vs ok env hps Q q =>
  ⟨F, ps, out, err, ok.fh, hps, hp, fun p ho v F' H' hh ff fh nw h => q p Θ (k p ho) v F' H' ff (ok.grow hh ff fh nw) h,
    fun e he F' H' d us hh ff fh nw hd hf => x e he σ F' H' (ok.grow hh ff fh nw) (env.mono ff) d us hd hf⟩
/-- nothing is raised -/
def noErr : Er → Prop := fun _ => False
theorem OkF.post (ok : OkF ⟨F, H, []⟩ Θ F' H') : Same H H' ∧ Same F F' ∧ Same F' H' ∧ Newer F H F' := ⟨fun a o h => ok.h0 a o (by simp) h, ok.f0, ok.fh, ok.nw⟩
theorem Post.ret {out : Vp → Prop} (h : Post F H Q out) : Ret ⟨F, H, []⟩ Q out := fun p hp Θ v F' H' ok hv => by
  obtain ⟨a, b, c, d⟩ := ok.post
  exact h p hp v F' H' a b c d hv
theorem PErs.rse {E : XK} {err : Er → Prop} (h : PErs F H E err) : Rse ⟨F, H, []⟩ E err := fun e he Θ F' H' d us ok hd hf => by
  obtain ⟨a, b, c, n⟩ := ok.post
  exact h e he F' H' d us a b c n hd hf
def envOf (N : List Str) (ps : List Vp) : Gam := ps.map some ++ List.replicate (N.length - ps.length) none
theorem env_start {N : List Str} {ps : List Vp} {vs : List V} (h : Paired (fun (p : Vp) v => p.p F v) ps vs) : EnvF (envOf N ps) (start N vs) F := by
  unfold envOf start
  rw [Paired.len h]
  refine Paired.app ?_ ?_
  · induction h with
    | nil => exact .nil
    | cons a _ ih => exact .cons (fun p hp => by cases hp; exact ⟨_, rfl, a⟩) ih
  · have : ∀ n : Nat, Paired (fun (e : Option Vp) (s : Option V) => ∀ p, e = some p → ∃ v, s = some v ∧ p.p F v) (List.replicate n none) (List.replicate n none) := fun n => by
      induction n with
      | zero => exact .nil
      | succ n ih => exact .cons (fun p hp => by cases hp) ih
    exact this _
end
section
variable {P : Program} {w : World} {K : PySem.W.Frag} {mg : Str → Option Value} {base : Heap} {x m qual : Str} {C : Addr} {st : Stmt} {N ps : List Str} {k : Nat} {pre : Pre}
theorem Src.okA (F : Src K mg x st ps) (S : FnScope N ps (defScope st)) (len : ∀ qs out err, pre qs out err → qs.length = ps.length)
    (hbody : ∀ (f : Addr) (cdv : Value) (A : Around) (outer : List Env) (s : Shared) (H : Hp) (E : XK) (qs : List Vp) (out : Vp → Prop) (err : Er → Prop), Room k (A.deeper (envOfC x (defScope st) s.heap.objs.size f cdv)) → pre qs out err →
      ∃ t, PSs (cxOf CX0 P w K mg base N x (defScope st) f cdv A outer s H E).nox (defBody st) t ∧ ∀ fr Q, Ret fr Q out → Kn fr (envOf N qs) [] (t { nx := fun _ H' => Q .non H', rt := Q })) : Def P w K mg base CX0 (k + 1) x ps (spA pre) := by
  refine F.ok S (fun vs H Q E h => ?_) (fun f cdv A outer s H vs Q E hr h => ?_)
  · obtain ⟨F, qs, out, err, _, h2, h3, _⟩ := h
    rw [← Paired.len h2]
    exact len _ _ _ h3
  · obtain ⟨F, qs, out, err, h1, h2, h3, h4, h5⟩ := h
    obtain ⟨t, ht, hk⟩ := hbody f cdv A outer s H E qs out err hr h3
    exact ⟨t, ht, hk _ Q h4.ret _ F H (OkF.start h1) (env_start h2)⟩
theorem Src.okAX (F : Src K mg x st ps) (S : FnScope N ps (defScope st)) (len : ∀ qs out err, pre qs out err → qs.length = ps.length)
    (hbody : ∀ (f : Addr) (cdv : Value) (A : Around) (outer : List Env) (s : Shared) (H : Hp) (E : XK) (qs : List Vp) (out : Vp → Prop) (err : Er → Prop), Room k (A.deeper (envOfC x (defScope st) s.heap.objs.size f cdv)) → pre qs out err →
      ∃ t, PSs (cxOf (L2.CX P w) P w K mg base N x (defScope st) f cdv A outer s H E) (defBody st) t ∧ ∀ fr Q, Ret fr Q out → Rse fr E err → Kn fr (envOf N qs) [] (t { nx := fun _ H' => Q .non H', rt := Q })) : Def P w K mg base (L2.CX P w) (k + 1) x ps (spA pre) := by
  refine F.okX S (fun vs H Q E h => ?_) (fun f cdv A outer s H vs Q E hr h => ?_)
  · obtain ⟨F, qs, out, err, _, h2, h3, _⟩ := h
    rw [← Paired.len h2]
    exact len _ _ _ h3
  · obtain ⟨F, qs, out, err, h1, h2, h3, h4, h5⟩ := h
    obtain ⟨t, ht, hk⟩ := hbody f cdv A outer s H E qs out err hr h3
    exact ⟨t, ht, hk _ Q h4.ret h5.rse _ F H (OkF.start h1) (env_start h2)⟩
theorem SrcM.okA (F : SrcM K C m qual st ps) (S : FnScope N ps (defScope st)) (len : ∀ qs out err, pre qs out err → qs.length = ps.length)
    (hbody : ∀ (f : Addr) (cdv : Value) (A : Around) (outer : List Env) (s : Shared) (H : Hp) (E : XK) (qs : List Vp) (out : Vp → Prop) (err : Er → Prop), Room k (A.deeper (envOfC qual (defScope st) s.heap.objs.size f cdv)) → pre qs out err →
      ∃ t, PSs (cxOf CX0 P w K mg base N qual (defScope st) f cdv A outer s H E).nox (defBody st) t ∧ ∀ fr Q, Ret fr Q out → Kn fr (envOf N qs) [] (t { nx := fun _ H' => Q .non H', rt := Q })) : DefM P w K mg base CX0 (k + 1) C m ps (spA pre) := by
  refine F.ok S (fun vs H Q E h => ?_) (fun f cdv A outer s H vs Q E hr h => ?_)
  · obtain ⟨F, qs, out, err, _, h2, h3, _⟩ := h
    rw [← Paired.len h2]
    exact len _ _ _ h3
  · obtain ⟨F, qs, out, err, h1, h2, h3, h4, h5⟩ := h
    obtain ⟨t, ht, hk⟩ := hbody f cdv A outer s H E qs out err hr h3
    exact ⟨t, ht, hk _ Q h4.ret _ F H (OkF.start h1) (env_start h2)⟩
theorem SrcM.okAX (F : SrcM K C m qual st ps) (S : FnScope N ps (defScope st)) (len : ∀ qs out err, pre qs out err → qs.length = ps.length)
    (hbody : ∀ (f : Addr) (cdv : Value) (A : Around) (outer : List Env) (s : Shared) (H : Hp) (E : XK) (qs : List Vp) (out : Vp → Prop) (err : Er → Prop), Room k (A.deeper (envOfC qual (defScope st) s.heap.objs.size f cdv)) → pre qs out err →
      ∃ t, PSs (cxOf (L2.CX P w) P w K mg base N qual (defScope st) f cdv A outer s H E) (defBody st) t ∧ ∀ fr Q, Ret fr Q out → Rse fr E err → Kn fr (envOf N qs) [] (t { nx := fun _ H' => Q .non H', rt := Q })) : DefM P w K mg base (L2.CX P w) (k + 1) C m ps (spA pre) := by
  refine F.okX S (fun vs H Q E h => ?_) (fun f cdv A outer s H vs Q E hr h => ?_)
  · obtain ⟨F, qs, out, err, _, h2, h3, _⟩ := h
    rw [← Paired.len h2]
    exact len _ _ _ h3
  · obtain ⟨F, qs, out, err, h1, h2, h3, h4, h5⟩ := h
    obtain ⟨t, ht, hk⟩ := hbody f cdv A outer s H E qs out err hr h3
    exact ⟨t, ht, hk _ Q h4.ret h5.rse _ F H (OkF.start h1) (env_start h2)⟩
end
section
variable {fr : Fr} {Γ Γ' : Gam} {Θ : List Cel} {F F' H H' : Hp} {K : Vp → List Cel → Prop} {Q : VK}
/-! ### raise, try -/
theorem kr_E {E : XK} {err : Er → Prop} {e : Er} (h : Rse fr E err) (he : err e) : Kr fr Γ Θ (fun cls d _ H => E cls d H) e := fun σ F H ok env d us hd hf => h e he Θ F H d us ok hd hf
theorem zip_ok {fs : List Str} {ps : List Vp} {vs : List V} (h : Paired (fun (p : Vp) v => p.p F v) ps vs) : ∀ {fs : List Str}, Paired (fun (x : Str × Vp) (y : Str × V) => x.1 = y.1 ∧ x.2.p F y.2) (fs.zip ps) (fs.zip vs) := fun {fs} => by
  induction h generalizing fs with
  | nil => rw [List.zip_nil_right, List.zip_nil_right]; exact .nil
  | cons a _ ih => cases fs with
    | nil => exact .nil
    | cons f fs => exact .cons ⟨rfl, a⟩ ih
theorem Paired.rev {α β : Type} {R : α → β → Prop} {l : List α} {m : List β} (h : Paired R l m) : Paired R l.reverse m.reverse := by
  induction h with
  | nil => exact .nil
  | cons a _ ih => rw [List.reverse_cons, List.reverse_cons]; exact PySem.Paired.snoc ih a
theorem kn_raise {tm : Bool} {C : Addr} {fs : List Str} {W : WX} {ta : TA} {D : Ends} (w : Wa fr Γ Θ ta fun ps Θ1 => ps.length = fs.length ∧ (tm = true → ∃ z r, ps = iz zS z :: r ∧ z.length ≤ 1000) ∧ Kr fr Γ Θ1 W ⟨C, (fs.zip ps).reverse⟩) : Kn fr Γ Θ (tRaiseE tm C fs W ta D) := fun σ F H ok env =>
  w σ F H ok env _ fun ps Θ1 ⟨hl, ht, k⟩ vs F1 H1 s1 ok1 hps => by
    refine ⟨by rw [← Paired.len hps]; exact hl, fun h => ?_, fun d nd => ?_⟩
    · obtain ⟨z, r, e, hz⟩ := ht h
      subst e
      cases hps with
      | cons a b => exact ⟨z, _, by rw [a.1], hz⟩
    · have s2 := ok1.sameF (o := .xd (fs.zip vs).reverse) nd
      exact k σ _ _ (ok1.new nd) ((env.mono s1).mono s2) d _ upd_same (Paired.rev (zip_ok (fs := fs) (ps_mono s2 hps)))
/-- the caught exception at a, its dict at d -/
def zExc (a d : Addr) (fs : List (Str × Vp)) : Vp := ⟨fun F v => v = .ref a ∧ ∃ us, F d = some (.xd us) ∧ FsOk F fs us, fun e ⟨h1, us, h2, h3⟩ => ⟨h1, us, e _ _ h2, h3.mono e⟩⟩
theorem kr_as {Kf : PySem.W.Frag} {c : Value} {i : Nat} {ts : Addr → Value → Option Addr → TS} {Wout : WX} {D : Ends} {e : Er} (hx : PySem.W.exmOne Kf (.ref e.C) c = some true)
    (k : ∀ a d, Kn fr (Γ.set i (some (zExc a d e.fs))) Θ (ts a (.ref e.C) (some d) { nx := fun σ' H' => D.nx (σ'.set i none) H', rt := D.rt, bk := fun σ' H' => D.bk (σ'.set i none) H', ct := fun σ' H' => D.ct (σ'.set i none) H' })) : Kr fr Γ Θ (wAs Kf c i ts Wout D) e := fun σ F H ok env d us hd hf =>
  ⟨true, hx, fun _ a ha => k a d _ F H ok (env.set (p := zExc a d e.fs) ⟨rfl, us, hd, hf⟩), fun q => Bool.noConfusion q⟩
theorem kr_asN {Kf : PySem.W.Frag} {c : Value} {i : Nat} {ts : Addr → Value → Option Addr → TS} {Wout : WX} {D : Ends} {e : Er} (hx : PySem.W.exmOne Kf (.ref e.C) c = some false) (k : Kr fr Γ Θ Wout e) : Kr fr Γ Θ (wAs Kf c i ts Wout D) e := fun σ F H ok env d us hd hf =>
  ⟨false, hx, fun q => Bool.noConfusion q, fun _ => k σ F H ok env d us hd hf⟩
theorem kr_cl {Kf : PySem.W.Frag} {c : Value} {i : Nat} {ts : Addr → Value → Option Addr → TS} {Wout : WX} {D : Ends} {r : List Clause} {e : Er} (hx : PySem.W.exmOne Kf (.ref e.C) c = some true)
    (k : ∀ a d, Kn fr (Γ.set i (some (zExc a d e.fs))) Θ (ts a (.ref e.C) (some d) { nx := fun σ' H' => D.nx (σ'.set i none) H', rt := D.rt, bk := fun σ' H' => D.bk (σ'.set i none) H', ct := fun σ' H' => D.ct (σ'.set i none) H' })) : Kr fr Γ Θ (wClauses Kf Wout D ((c, some i, ts) :: r)) e := fun σ F H ok env d us hd hf =>
  ⟨true, hx, fun _ a ha => k a d _ F H ok (env.set (p := zExc a d e.fs) ⟨rfl, us, hd, hf⟩), fun q => Bool.noConfusion q⟩
theorem kr_cl0 {Kf : PySem.W.Frag} {c : Value} {ts : Addr → Value → Option Addr → TS} {Wout : WX} {D : Ends} {r : List Clause} {e : Er} (hx : PySem.W.exmOne Kf (.ref e.C) c = some true)
    (k : ∀ a d, Kn fr Γ Θ (ts a (.ref e.C) (some d) D)) : Kr fr Γ Θ (wClauses Kf Wout D ((c, none, ts) :: r)) e := fun σ F H ok env d us hd hf =>
  ⟨true, hx, fun _ a ha => k a d _ F H ok env, fun q => Bool.noConfusion q⟩
theorem kr_clN {Kf : PySem.W.Frag} {c : Value} {o : Option Nat} {ts : Addr → Value → Option Addr → TS} {Wout : WX} {D : Ends} {r : List Clause} {e : Er} (hx : PySem.W.exmOne Kf (.ref e.C) c = some false) (k : Kr fr Γ Θ (wClauses Kf Wout D r) e) : Kr fr Γ Θ (wClauses Kf Wout D ((c, o, ts) :: r)) e := fun σ F H ok env d us hd hf =>
  ⟨false, hx, fun q => Bool.noConfusion q, fun _ => k σ F H ok env d us hd hf⟩
theorem kn_try {tb : WX → TS} {W : Ends → WX} {D : Ends} (k : Kn fr Γ Θ (tb (W D) D)) : Kn fr Γ Θ ((fun D σ H => tb (W D) D σ H) D) := k
theorem kn_suite {i : Nat} {P : L2.St → Hp → Prop} (k : Kn fr (Γ.set i none) Θ P) : Kn fr Γ Θ (fun σ' H' => P (σ'.set i none) H') := fun σ F H ok env => k _ F H ok env.drop
theorem we_xf {a d C : Addr} {f : Str} {te : TE} {fs : List (Str × Vp)} {q : Vp} (w : We fr Γ Θ te fun p Θ1 => p = zExc a d fs ∧ fs.lookup f = some q ∧ K q Θ1) : We fr Γ Θ (tXf a (.ref C) (some d) C f te) K := fun σ F H ok env Q k =>
  w σ F H ok env _ fun p Θ1 ⟨e, hl, kk⟩ v F1 H1 s1 ok1 hp => by
    subst e
    obtain ⟨h1, us, h2, h3⟩ := hp
    obtain ⟨u, h4, h5⟩ := h3.look hl
    exact ⟨h1, rfl, d, us, u, rfl, ok1.fh _ _ h2, h4, k q Θ1 kk u F1 H1 s1 ok1 h5⟩
/-! ### fields -/
def FldR (Kf : PySem.W.Frag) (f : Str) (p q : Vp) : Prop := ∀ F v, p.p F v → ∃ a C dx fs u, v = .ref a ∧ F a = some (.ins C dx fs) ∧ Cls Kf C ∧ NoAttr Kf C f ∧ fs.lookup f = some u ∧ q.p F u
/-- the field f of p is q -/
def FldP (fr : Fr) (Θ : List Cel) (Kf : PySem.W.Frag) (f : Str) (p q : Vp) : Prop := ∀ F H v, OkF fr Θ F H → p.p F v → ∃ a C dx fs u, v = .ref a ∧ H a = some (.ins C dx fs) ∧ Cls Kf C ∧ NoAttr Kf C f ∧ fs.lookup f = some u ∧ q.p F u
theorem FldR.p {Kf : PySem.W.Frag} {f : Str} {p q : Vp} (h : FldR Kf f p q) : FldP fr Θ Kf f p q := fun F H v ok hv => by
  obtain ⟨a, C, dx, fs, u, h1, h2, h3, h4, h5, h6⟩ := h F v hv
  exact ⟨a, C, dx, fs, u, h1, ok.fh _ _ h2, h3, h4, h5, h6⟩
theorem we_fld {Kf : PySem.W.Frag} {f : Str} {ta : TE} (w : We fr Γ Θ ta fun p Θ1 => ∃ q, FldP fr Θ1 Kf f p q ∧ K q Θ1) : We fr Γ Θ (tFld Kf ta f) K := fun σ F H ok env Q k =>
  w σ F H ok env _ fun p Θ1 ⟨q, hf, kk⟩ v F1 H1 s1 ok1 hp => by
    obtain ⟨a, C, dx, fs, u, h1, h2, h3, h4, h5, h6⟩ := hf F1 H1 v ok1 hp
    exact ⟨a, C, dx, fs, u, h1, h2, h3, h4, h5, k q Θ1 kk u F1 H1 s1 ok1 h6⟩
/-! ### changes of cells -/
theorem ty_cell {α : Type} {r : Rep α} {xs : List α} {a : Addr} {Kf : PySem.W.Frag} (hc : cL a r xs ∈ Θ) : ∀ F H v, OkF fr Θ F H → (zAt a).p F v → tyV Kf "list" v H := fun F H v ok hv => by
  have hv : v = .ref a := hv
  subst hv
  obtain ⟨_, ⟨o, h2, vs, rfl, h4⟩, _⟩ := ok.ce _ hc
  exact .inl ⟨rfl, vs, SqL.of h2⟩
theorem mts_append {α : Type} {r : Rep α} {xs : List α} {x : α} {a : Addr} {j : Nat} (hj : Θ[j]? = some (cL a r xs)) (hl : xs.length < 1000) (k : K zNon (Θ.set j (cL a r (xs ++ [x])))) : Mts fr Θ rAppend (zAt a) [iz r x] K := fun F H v vs ok hv hps Q q => by
  have hv : v = .ref a := hv
  subst hv
  obtain ⟨_, ⟨o, h2, us, rfl, h4⟩, _⟩ := ok.ce _ (List.mem_of_getElem? hj)
  cases hps with
  | cons h1 hp => cases hp with
    | nil => exact ⟨a, us, _, rfl, rfl, h2, by rw [Paired.len h4]; exact small1000 (Nat.le_of_lt hl), q _ _ k _ F _ (Same.refl F) (ok.mut hj rfl rfl ⟨_, rfl, PySem.Paired.snoc h4 h1⟩) rfl⟩
/-- xs.append(e) -/
theorem kn_append {Kf : PySem.W.Frag} {α : Type} {r : Rep α} {xs : List α} {a : Addr} {i : Nat} {te : TE} {D : Ends} (hi : Γ[i]? = some (some (zAt a))) (hc : cL a r xs ∈ Θ)
    (w : We fr Γ Θ te fun p Θ1 => ∃ x j, p = iz r x ∧ Θ1[j]? = some (cL a r xs) ∧ xs.length < 1000 ∧ Kn fr Γ (Θ1.set j (cL a r (xs ++ [x]))) D.nx) : Kn fr Γ Θ (tDrop (tBM Kf "list" rAppend (tVar i) (tCons te tNil)) D) :=
  kn_drop (we_bm (we_var hi ⟨ty_cell hc, wa_cons (w.imp fun p Θ1 ⟨x, j, e, hj, hl, k⟩ => wa_nil (by
    subst e
    exact mts_append hj hl k))⟩))
/-! ### a[i] = e -/
theorem kn_setL {α : Type} {r : Rep α} {xs : List α} {a : Addr} {i : Nat} {te ti : TE} {D : Ends} (hi : Γ[i]? = some (some (zAt a)))
    (w : We fr Γ Θ te fun p Θ1 => We fr Γ Θ1 ti fun q Θ2 => ∃ x n m j, p = iz r x ∧ q = iz zI n ∧ Θ2[j]? = some (cL a r xs) ∧ ixN xs.length n = some m ∧ Kn fr Γ (Θ2.set j (cL a r (xs.set m x))) D.nx) : Kn fr Γ Θ (tAsg te (gSub (tVar i) ti rSetL) D) := fun σ F H ok env =>
  w σ F H ok env _ fun p Θ1 k v F1 H1 s1 ok1 hp => by
    obtain ⟨v0, h1, h2⟩ := (env.mono s1).get hi
    have h2 : v0 = .ref a := h2
    subst h2
    refine ⟨_, h1, k σ F1 H1 ok1 (env.mono s1) _ fun q Θ2 ⟨x, n, m, j, e1, e2, hj, hm, k2⟩ w2 F2 H2 s2 ok2 hp2 => ?_⟩
    subst e1 e2
    obtain ⟨_, ⟨o, h3, us, rfl, h4⟩, _⟩ := ok2.ce _ (List.mem_of_getElem? hj)
    exact ⟨a, us, n, m, rfl, hp2, h3, by rw [Paired.len h4]; exact hm, k2 σ F2 _ (ok2.mut hj rfl rfl ⟨_, rfl, Paired.set (r.mono s2 hp) m h4⟩) ((env.mono s1).mono s2)⟩
/-! ### equality of data -/
class Dat {α : Type} (r : Rep α) where
  enc : α → PyData
  dep : Nat
  dp : ∀ {Kf : PySem.W.Frag} {F : Hp} {v : V} {x : α}, r.p F v x → Dp Kf F v (enc x)
  ok : ∀ {F : Hp} {v : V} {x : α}, r.p F v x → nb (enc x) = true
  dl : ∀ x : α, (enc x).depth ≤ dep
  inj : ∀ {x y : α}, enc x = enc y → x = y
instance : Dat zI := ⟨PyData.int, 0, fun h => by cases (show _ = V.int _ from h); exact .int _, fun _ => rfl, fun _ => by simp [PyData.depth], fun h => PyData.int.inj h⟩
instance : Dat zS := ⟨PyData.str, 0, fun h => by cases h.1; exact .str _, fun h => h.2.ok, fun _ => by simp [PyData.depth], fun h => PyData.str.inj h⟩
theorem map_inj' {α β : Type} {f : α → β} (hf : ∀ x y, f x = f y → x = y) : ∀ {l m : List α}, l.map f = m.map f → l = m
  | [], [], _ => rfl
  | [], _ :: _, h => by cases h
  | _ :: _, [], h => by cases h
  | a :: l, b :: m, h => by
    rw [List.map_cons, List.map_cons, List.cons.injEq] at h
    rw [hf _ _ h.1, map_inj' hf h.2]
theorem dat_all {α : Type} {r : Rep α} [d : Dat r] {Kf : PySem.W.Frag} {vs : List V} {xs : List α} (h : PVs r F vs xs) : DpAll Kf F vs (xs.map d.enc) := by
  induction h with
  | nil => exact .nil
  | cons a _ ih => exact .cons (d.dp a) ih
theorem dat_nb {α : Type} {r : Rep α} [d : Dat r] {vs : List V} {xs : List α} (h : PVs r F vs xs) : nbAll (xs.map d.enc) = true := by
  induction h with
  | nil => rfl
  | cons a _ ih => show (nb _ && nbAll _) = true; rw [d.ok a, ih]; rfl
theorem dat_dep {α : Type} {r : Rep α} [d : Dat r] (xs : List α) : PyData.depthAll (xs.map d.enc) ≤ d.dep := depthAll_le fun y hy => by
  obtain ⟨x, _, rfl⟩ := List.mem_map.mp hy
  exact d.dl x
instance {α : Type} {r : Rep α} [d : Dat r] : Dat (zL r) := ⟨fun xs => .list (xs.map d.enc), d.dep + 1, fun ⟨a, vs, h1, h2, h3⟩ => by subst h1; exact .lst (SqL.of h2) (dat_all h3), fun ⟨a, vs, h1, h2, h3⟩ => dat_nb h3, fun xs => by
  have := dat_dep (r := r) xs
  simp only [PyData.depth]
  omega, fun h => map_inj' (fun _ _ => d.inj) (PyData.list.inj h)⟩
instance {α : Type} {r : Rep α} [d : Dat r] : Dat (zT r) := ⟨fun xs => .tuple (xs.map d.enc), d.dep + 1, fun ⟨a, vs, h1, h2, h3⟩ => by subst h1; exact .tup (SqT.of h2) (dat_all h3), fun ⟨a, vs, h1, h2, h3⟩ => dat_nb h3, fun xs => by
  have := dat_dep (r := r) xs
  simp only [PyData.depth]
  omega, fun h => map_inj' (fun _ _ => d.inj) (PyData.tuple.inj h)⟩
instance {α β : Type} {r : Rep α} {s : Rep β} [d : Dat r] [e : Dat s] : Dat (z2 r s) := ⟨fun x => .tuple [d.enc x.1, e.enc x.2], d.dep + e.dep + 1, fun ⟨a, u, w, h1, h2, h3, h4⟩ => by subst h1; exact .tup (SqT.of h2) (.cons (d.dp h3) (.cons (e.dp h4) .nil)),
  fun ⟨a, u, w, h1, h2, h3, h4⟩ => by show (nb _ && (nb _ && true)) = true; rw [d.ok h3, e.ok h4]; rfl, fun x => by
    have h1 := d.dl x.1
    have h2 := e.dl x.2
    simp only [PyData.depth, PyData.depthAll]
    omega, fun {x y} h => by
    have h := PyData.tuple.inj h
    rw [List.cons.injEq, List.cons.injEq] at h
    exact Prod.ext (d.inj h.1) (e.inj h.2.1)⟩
instance {α β γ : Type} {r : Rep α} {s : Rep β} {t : Rep γ} [d : Dat r] [e : Dat s] [f : Dat t] : Dat (z3 r s t) := ⟨fun x => .tuple [d.enc x.1, e.enc x.2.1, f.enc x.2.2], d.dep + e.dep + f.dep + 1, fun ⟨a, u, w, z, h1, h2, h3, h4, h5⟩ => by subst h1; exact .tup (SqT.of h2) (.cons (d.dp h3) (.cons (e.dp h4) (.cons (f.dp h5) .nil))),
  fun ⟨a, u, w, z, h1, h2, h3, h4, h5⟩ => by show (nb _ && (nb _ && (nb _ && true))) = true; rw [d.ok h3, e.ok h4, f.ok h5]; rfl, fun x => by
    have h1 := d.dl x.1
    have h2 := e.dl x.2.1
    have h3 := f.dl x.2.2
    simp only [PyData.depth, PyData.depthAll]
    omega, fun {x y} h => by
    have h := PyData.tuple.inj h
    rw [List.cons.injEq, List.cons.injEq, List.cons.injEq] at h
    exact Prod.ext (d.inj h.1) (Prod.ext (e.inj h.2.1) (f.inj h.2.2.1))⟩
theorem dat_eqv {α : Type} [DecidableEq α] {r : Rep α} [d : Dat r] {v w : V} {x y : α} (hv : r.p F v x) (hw : r.p F w y) : PyData.eqv (d.enc x) (d.enc y) = decide (x = y) := by
  have h := eqv_nb (d.enc x) (d.enc y) (d.ok hv) (d.ok hw)
  by_cases e : x = y
  · rw [decide_eq_true e, h, e]
  · rw [decide_eq_false e]
    cases q : PyData.eqv (d.enc x) (d.enc y) with
    | false => rfl
    | true => exact absurd (d.inj (h.mp q)) e
theorem Dp.up {Kf : PySem.W.Frag} {v : V} {d : PyData} (h : Dp Kf F v d) (e : Same F H) : Dp Kf H v d := Dp.keep e d v h
theorem ops_eqD {Kf : PySem.W.Frag} {α : Type} [DecidableEq α] {r : Rep α} [d : Dat r] {x y : α} (hd : d.dep ≤ 64) (k : K (iz zB (decide (x = y))) Θ) : Ops fr Θ (rEqD Kf) (iz r x) (iz r y) K := fun F H v w ok hv hw Q q => by
  refine ⟨d.enc x, d.enc y, (d.dp hv).up ok.fh, (d.dp hw).up ok.fh, shaped_of (d.ok hv) (Nat.le_trans (d.dl x) hd), shaped_of (d.ok hw) (Nat.le_trans (d.dl y) hd), ?_⟩
  rw [dat_eqv (r := r) hv hw]
  exact q.go k ok rfl
theorem ops_neD {Kf : PySem.W.Frag} {α : Type} [DecidableEq α] {r : Rep α} [d : Dat r] {x y : α} (hd : d.dep ≤ 64) (k : K (iz zB (!decide (x = y))) Θ) : Ops fr Θ (rNeD Kf) (iz r x) (iz r y) K := fun F H v w ok hv hw Q q => by
  refine ⟨d.enc x, d.enc y, (d.dp hv).up ok.fh, (d.dp hw).up ok.fh, shaped_of (d.ok hv) (Nat.le_trans (d.dl x) hd), shaped_of (d.ok hw) (Nat.le_trans (d.dl y) hd), ?_⟩
  rw [dat_eqv (r := r) hv hw]
  exact q.go k ok rfl
/-! ### the law's box -/
theorem OkF.growB {b l : Addr} {own : Bool} (k : OkF fr Θ F H) (hc : cBox own b l ∈ Θ) (hh : SameB b H H') (hb : ∃ o, H' b = some o ∧ (cBox own b l).φ F' o) (ff : Same F F') (fh : Same F' H') (fb : F' b = none) (nw : Newer F H F') : OkF fr Θ F' H' := by
  obtain ⟨i, hi⟩ := List.getElem?_of_mem hc
  obtain ⟨c1, ⟨o1, c2, c3⟩, c4⟩ := k.ce _ hc
  refine ⟨fh, k.f0.trans ff, fun a o h => ?_, fun a o hB h => ?_, fun a o h => ?_, k.nd, fun c hm => ?_⟩
  · rcases nw a o h with ⟨o', h'⟩ | h'
    · exact k.nw a o' h'
    · exact .inr (k.h0n h')
  · have ne : a ≠ b := fun e => by
      have c4 : (if own = true then fr.H0 b = none else b ∈ fr.B) := c4
      cases own with
      | true =>
        rw [if_pos rfl] at c4
        rw [e, c4] at h
        cases h
      | false =>
        rw [if_neg Bool.false_ne_true] at c4
        rw [e] at hB
        exact hB c4
    exact hh a o ne (k.h0 a o hB h)
  · by_cases e : a = b
    · obtain ⟨o', h', _⟩ := hb
      exact ⟨o', by rw [e]; exact h'⟩
    · obtain ⟨o', h'⟩ := k.al a o h
      exact ⟨o', hh a o' e h'⟩
  · obtain ⟨h1, ⟨u, h2, h3⟩, h4⟩ := k.ce c hm
    by_cases e : c.a = b
    · obtain ⟨j, hj⟩ := List.getElem?_of_mem hm
      have := nodup_at k.nd hi hj e
      subst this
      rw [hi] at hj
      cases hj
      exact ⟨fb, hb, h4⟩
    · refine ⟨?_, ⟨u, hh _ _ e h2, c.mono ff h3⟩, h4⟩
      cases q : F' c.a with
      | none => rfl
      | some o =>
        rcases nw _ _ q with ⟨o', h'⟩ | h'
        · rw [h1] at h'
          cases h'
        · rw [h2] at h'
          cases h'
theorem box_of {b l : Addr} {own : Bool} {o : HO} (hb : H b = some o) (h : (cBox own b l).φ F o) (fh : Same F H) (fb : F b = none) : Box H b l := by
  obtain ⟨ns, i, c, r, rfl, h2, h3⟩ := h
  exact ⟨ns, i, c, r, hb, fh _ _ h2, h3, fun e => by rw [e, fb] at h2; cases h2⟩
/-- _law_next(box, many) -/
theorem sps_next {E : L2.St → XK} {b l : Addr} {own : Bool} {m : Int} (hc : cBox own b l ∈ Θ) (h0 : 0 < m) (h1 : m ≤ 10 ^ 40) (k : ∀ n : Int, 0 ≤ n → n < m → K (iz zI n) Θ) : Sps fr Γ Θ spNext E [zAt b, iz zI m] K := fun σ F H vs ok env hps Q q => by
  obtain ⟨c1, ⟨o1, c2, c3⟩, _⟩ := ok.ce _ hc
  have c1 : F b = none := c1
  have hbx := box_of (own := own) c2 c3 ok.fh c1
  cases hps with
  | cons h2 hp => cases hp with
    | cons h3 hp => cases hp with
      | nil =>
        have h2 : _ = V.ref b := h2
        have h3 : _ = V.int m := h3
        subst h2 h3
        refine ⟨b, l, m, rfl, h0, h1, hbx, fun n H' n0 n1 bx => ?_⟩
        obtain ⟨ns, i, c, r, e1, e2, e3, e4⟩ := bx.b1.ex
        obtain ⟨ns', _, _, _, _, c3', _⟩ := c3
        refine q _ _ (k n n0 n1) _ F H' (Same.refl F) (ok.growB hc bx.sm ⟨_, e1, ns', i, c, r, rfl, c3', e3⟩ (Same.refl F) (fun a o h => bx.sm a o (fun e => by rw [e, c1] at h; cases h) (ok.fh a o h)) c1 (Newer.refl _ _)) rfl
end
end L2

set_option Elab.async false
set_option linter.all false
set_option maxRecDepth 100000
set_option maxHeartbeats 4000000
/-! The ground: dicts by words, plans. -/
namespace L2
open PySem PySem.Spec PyProof.Rows PySem.HErr
def KVs {α : Type} (r : Rep α) (F : Hp) (kvs : List (Key × V)) (rows : List (Str × α)) : Prop := Paired (fun (kv : Key × V) (x : Str × α) => kv.1 = Sum.inr x.1 ∧ r.p F kv.2 x.2) kvs rows
theorem KVs.mono {α : Type} {r : Rep α} {F F' : Hp} {kvs : List (Key × V)} {rows : List (Str × α)} (h : KVs r F kvs rows) (e : Same F F') : KVs r F' kvs rows := Paired.imp2 (fun _ _ ⟨h1, h2⟩ => ⟨h1, r.mono e h2⟩) h
/-- a dict from texts, frozen -/
def zD {α : Type} (r : Rep α) : Rep (List (Str × α)) := ⟨fun F v rows => ∃ a kvs, v = .ref a ∧ F a = some (.dK kvs) ∧ KVs r F kvs rows, fun e ⟨a, kvs, h1, h2, h3⟩ => ⟨a, kvs, h1, e _ _ h2, h3.mono e⟩⟩
/-- a dict from texts, one's own -/
def cD {α : Type} (a : Addr) (r : Rep α) (rows : List (Str × α)) : Cel := ⟨a, true, fun F o => ∃ kvs, o = .dK kvs ∧ KVs r F kvs rows, fun e ⟨kvs, h1, h2⟩ => ⟨kvs, h1, h2.mono e⟩⟩
/-- the value by a key -/
def getR {α : Type} (rows : List (Str × α)) (n : Str) : Option α := (rows.find? fun x => decide (x.1 = n)).map (·.2)
theorem getR_mem {α : Type} {rows : List (Str × α)} {n : Str} {x : α} (h : getR rows n = some x) : (n, x) ∈ rows := by
  unfold getR at h
  obtain ⟨y, hy, e⟩ := Option.map_eq_some_iff.mp h
  have h1 := List.mem_of_find?_eq_some hy
  have h2 : decide (y.1 = n) = true := List.find?_some (p := fun (x : Str × α) => decide (x.1 = n)) hy
  have h2 := of_decide_eq_true h2
  subst h2 e
  exact h1
theorem getR_none {α : Type} {rows : List (Str × α)} {n : Str} : getR rows n = none ↔ n ∉ rows.map (·.1) := by
  unfold getR
  rw [Option.map_eq_none_iff, List.find?_eq_none]
  constructor
  · intro h q
    obtain ⟨y, hy, e⟩ := List.mem_map.mp q
    exact h y hy (by simp [e])
  · intro h y hy q
    exact h (List.mem_map.mpr ⟨y, hy, of_decide_eq_true q⟩)
theorem getR_nodup {α : Type} {rows : List (Str × α)} (hn : (rows.map (·.1)).Nodup) {n : Str} {x : α} (h : (n, x) ∈ rows) : getR rows n = some x := by
  cases e : getR rows n with
  | none => exact absurd (List.mem_map.mpr ⟨_, h, rfl⟩) (getR_none.mp e)
  | some y =>
    have h2 := getR_mem e
    have : ∀ {l : List (Str × α)}, (l.map (·.1)).Nodup → (n, x) ∈ l → (n, y) ∈ l → y = x := by
      intro l
      induction l with
      | nil => intro _ h; cases h
      | cons a l ih =>
        intro hn h1 h2
        rw [List.map_cons, List.nodup_cons] at hn
        rcases List.mem_cons.mp h1 with h1 | h1
        · rcases List.mem_cons.mp h2 with h2 | h2
          · rw [← h1] at h2
            exact (Prod.mk.inj h2).2
          · exact absurd (List.mem_map.mpr ⟨_, h2, by rw [← h1]⟩) hn.1
        · rcases List.mem_cons.mp h2 with h2 | h2
          · exact absurd (List.mem_map.mpr ⟨_, h1, by rw [← h2]⟩) hn.1
          · exact ih hn.2 h1 h2
    rw [this hn h h2]
section
variable {fr : Fr} {Γ Γ' : Gam} {Θ : List Cel} {F F' H H' : Hp} {K : Vp → List Cel → Prop} {Q : VK}
theorem KVs.val {α : Type} {r : Rep α} {n : Str} : ∀ {kvs : List (Key × V)} {rows : List (Str × α)}, KVs r F kvs rows → (∀ x, getR rows n = some x → ∃ u, valV kvs (Sum.inr n) = some u ∧ r.p F u x) ∧ (getR rows n = none → valV kvs (Sum.inr n) = none)
  | _, _, .nil => ⟨(fun x h => by cases h), fun _ => rfl⟩
  | kv :: kvs, (a, y) :: rows, .cons ⟨h1, h2⟩ hr => by
    have h1 : kv.1 = Sum.inr a := h1
    obtain ⟨ih1, ih2⟩ := KVs.val (n := n) hr
    by_cases e : a = n
    · subst e
      have e2 : getR ((a, y) :: rows) a = some y := by unfold getR; simp
      refine ⟨fun x hx => ?_, fun hx => ?_⟩
      · rw [e2] at hx
        cases hx
        exact ⟨kv.2, by rw [valV_pos h1], h2⟩
      · rw [e2] at hx
        cases hx
    · have e2 : getR ((a, y) :: rows) n = getR rows n := by unfold getR; simp [e]
      have hk : ¬ kv.1 = Sum.inr n := fun q => by rw [h1] at q; exact e (Sum.inr.inj q)
      rw [e2, valV_neg hk]
      exact ⟨ih1, ih2⟩
/-- a dict to be read -/
def DicP {α : Type} (fr : Fr) (Θ : List Cel) (p : Vp) (r : Rep α) (rows : List (Str × α)) : Prop := ∀ F H v, OkF fr Θ F H → p.p F v → ∃ a kvs, v = .ref a ∧ H a = some (.dK kvs) ∧ KVs r F kvs rows
theorem dic_D {α : Type} {r : Rep α} {rows : List (Str × α)} : DicP fr Θ (iz (zD r) rows) r rows := fun F H v ok ⟨a, kvs, h1, h2, h3⟩ => ⟨a, kvs, h1, ok.fh _ _ h2, h3⟩
theorem dic_C {α : Type} {r : Rep α} {rows : List (Str × α)} {a : Addr} (hc : cD a r rows ∈ Θ) : DicP fr Θ (zAt a) r rows := fun F H v ok hv => by
  obtain ⟨_, ⟨o, h2, kvs, rfl, h4⟩, _⟩ := ok.ce _ hc
  exact ⟨a, kvs, hv, h2, h4⟩
theorem we_dget {td ty : TE} (w : We fr Γ Θ td fun p Θ1 => We fr Γ Θ1 ty fun q Θ2 => ∃ (α : Type) (r : Rep α) (rows : List (Str × α)) (n : Str) (x : α), DicP fr Θ2 p r rows ∧ q = iz zS n ∧ getR rows n = some x ∧ K (iz r x) Θ2) : We fr Γ Θ (tDGet td ty) K := fun σ F H ok env Q q =>
  w σ F H ok env _ fun p Θ1 k v F1 H1 s1 ok1 hp => k σ F1 H1 ok1 (env.mono s1) _ fun p2 Θ2 ⟨α, r, rows, n, x, hd, e, hx, kk⟩ v2 F2 H2 s2 ok2 hp2 => by
    subst e
    obtain ⟨a, kvs, h1, h2, h3⟩ := hd F2 H2 v ok2 (p.mono s2 hp)
    obtain ⟨u, hu, hr⟩ := h3.val.1 x hx
    exact ⟨a, u, h1, .inl ⟨kvs, Sum.inr n, .inl h2, hp2.1, hu.symm⟩, q _ _ kk u F2 H2 (s1.trans s2) ok2 hr⟩
theorem opt_some {α : Type} {r : Rep α} {rows : List (Str × α)} {kvs : List (Key × V)} {n : Str} (h3 : KVs r F kvs rows) : (valV kvs (Sum.inr n)).isSome = (getR rows n).isSome := by
  cases e : getR rows n with
  | none => rw [h3.val.2 e]; rfl
  | some x =>
    obtain ⟨u, hu, _⟩ := h3.val.1 x e
    rw [hu]
    rfl
theorem we_din {td ty : TE} (w : We fr Γ Θ ty fun q Θ1 => We fr Γ Θ1 td fun p Θ2 => ∃ (α : Type) (r : Rep α) (rows : List (Str × α)) (n : Str), DicP fr Θ2 p r rows ∧ q = iz zS n ∧ K (iz zB (getR rows n).isSome) Θ2) : We fr Γ Θ (tDIn ty td) K := fun σ F H ok env Q q =>
  w σ F H ok env _ fun p Θ1 k v F1 H1 s1 ok1 hp => k σ F1 H1 ok1 (env.mono s1) _ fun p2 Θ2 ⟨α, r, rows, n, hd, e, kk⟩ v2 F2 H2 s2 ok2 hp2 => by
    subst e
    obtain ⟨a, kvs, h1, h2, h3⟩ := hd F2 H2 v2 ok2 hp2
    refine ⟨a, _, h1, .inl ⟨kvs, Sum.inr n, .inl h2, hp.1, rfl⟩, q _ _ kk _ F2 H2 (s1.trans s2) ok2 ?_⟩
    show _ = V.bl _
    rw [opt_some h3]
theorem we_dnin {td ty : TE} (w : We fr Γ Θ ty fun q Θ1 => We fr Γ Θ1 td fun p Θ2 => ∃ (α : Type) (r : Rep α) (rows : List (Str × α)) (n : Str), DicP fr Θ2 p r rows ∧ q = iz zS n ∧ K (iz zB (!(getR rows n).isSome)) Θ2) : We fr Γ Θ (tDNotIn ty td) K := fun σ F H ok env Q q =>
  w σ F H ok env _ fun p Θ1 k v F1 H1 s1 ok1 hp => k σ F1 H1 ok1 (env.mono s1) _ fun p2 Θ2 ⟨α, r, rows, n, hd, e, kk⟩ v2 F2 H2 s2 ok2 hp2 => by
    subst e
    obtain ⟨a, kvs, h1, h2, h3⟩ := hd F2 H2 v2 ok2 hp2
    refine ⟨a, _, h1, .inl ⟨kvs, Sum.inr n, .inl h2, hp.1, rfl⟩, q _ _ kk _ F2 H2 (s1.trans s2) ok2 ?_⟩
    show _ = V.bl _
    rw [opt_some h3]
/-- {} of one's own -/
theorem we_dnew {α : Type} (r : Rep α) (k : ∀ a, K (zAt a) (cD a r [] :: Θ)) : We fr Γ Θ tDNewK K := fun σ F H ok env Q q a na => q _ _ (k a) _ F _ (Same.refl F) (ok.mkOwn (c := cD a r []) na rfl ⟨[], rfl, .nil⟩) rfl
def putR {α : Type} (rows : List (Str × α)) (n : Str) (x : α) : List (Str × α) := if n ∈ rows.map (·.1) then rows.map fun y => if y.1 = n then (y.1, x) else y else rows ++ [(n, x)]
theorem KVs.put {α : Type} {r : Rep α} {kvs : List (Key × V)} {rows : List (Str × α)} {n : Str} {x : α} {u : V} (h : KVs r F kvs rows) (hu : r.p F u x) : KVs r F (putK kvs (Sum.inr n) u) (putR rows n x) := by
  have hk : (kvs.any fun kv => decide (kv.1 = Sum.inr n)) = decide (n ∈ rows.map (·.1)) := by
    induction h with
    | nil => rfl
    | cons a b ih =>
      rename_i kv y kvs rows
      rw [List.any_cons, ih, a.1, List.map_cons]
      by_cases e : y.1 = n
      · rw [decide_eq_true (by rw [e]), Bool.true_or, decide_eq_true (by rw [e]; exact List.mem_cons_self ..)]
      · rw [decide_eq_false (fun q => e (Sum.inr.inj q)), Bool.false_or]
        by_cases e2 : n ∈ rows.map (·.1)
        · rw [decide_eq_true e2, decide_eq_true (List.mem_cons_of_mem _ e2)]
        · rw [decide_eq_false e2, decide_eq_false fun q => (List.mem_cons.mp q).elim (fun q => e q.symm) e2]
  unfold putK putR
  by_cases e : n ∈ rows.map (·.1)
  · rw [if_pos e, if_pos (by rw [hk]; exact decide_eq_true e)]
    clear hk e
    induction h with
    | nil => exact .nil
    | cons a b ih =>
      refine .cons ?_ ih
      rename_i kv y kvs rows
      dsimp only
      by_cases e : y.1 = n
      · rw [if_pos e, if_pos (by rw [a.1, e])]
        exact ⟨a.1, hu⟩
      · rw [if_neg e, if_neg (fun q => e (Sum.inr.inj (a.1.symm.trans q)))]
        exact a
  · rw [if_neg e, if_neg (by rw [hk]; simpa using e)]
    exact PySem.Paired.snoc h ⟨rfl, hu⟩
/-- d[n] = x -/
theorem kn_dput {td ty tv : TE} {D : Ends} (w : We fr Γ Θ tv fun p Θ1 => We fr Γ Θ1 td fun pd Θ2 => We fr Γ Θ2 ty fun q Θ3 => ∃ (α : Type) (r : Rep α) (rows : List (Str × α)) (n : Str) (x : α) (a : Addr) (j : Nat), p = iz r x ∧ pd = zAt a ∧ q = iz zS n ∧ Θ3[j]? = some (cD a r rows) ∧ rows.length < 1000 ∧ Kn fr Γ (Θ3.set j (cD a r (putR rows n x))) D.nx) : Kn fr Γ Θ (sDPut td ty tv D) := fun σ F H ok env =>
  w σ F H ok env _ fun p Θ1 k v F1 H1 s1 ok1 hp => k σ F1 H1 ok1 (env.mono s1) _ fun p2 Θ2 k2 v2 F2 H2 s2 ok2 hp2 => k2 σ F2 H2 ok2 ((env.mono s1).mono s2) _ fun p3 Θ3 ⟨α, r, rows, n, x, a, j, e1, e2, e3, hj, hl, kk⟩ v3 F3 H3 s3 ok3 hp3 => by
    subst e1 e2 e3
    obtain ⟨_, ⟨o, h2, kvs, rfl, h4⟩, _⟩ := ok3.ce _ (List.mem_of_getElem? hj)
    refine ⟨a, _, hp2, .inl ⟨kvs, Sum.inr n, h2, hp3.1, by rw [Paired.len h4]; exact small1000 (Nat.le_of_lt hl), rfl⟩, ?_⟩
    exact kk σ F3 _ (ok3.mut hj rfl rfl ⟨_, rfl, h4.put (r.mono (s2.trans s3) hp)⟩) (((env.mono s1).mono s2).mono s3)
end
/-! ### plans -/
structure PlanOk (d : PlanD) : Prop where
  pa : ∀ y ∈ d.places, Wd y
  pn : d.places.Nodup
  bl : d.begin.length = d.places.length
  bn : ∀ n ∈ d.begin, 0 ≤ n ∧ n ≤ 99
  st : ∀ r ∈ d.steps, Wd r.1 ∧ r.2.1 ≠ [] ∧ inOrd d.places r.2.1 = r.2.1 ∧ inOrd d.places r.2.2 = r.2.2
  sn : d.names.Nodup
  p12 : d.places.length ≤ 12
  s16 : d.steps.length ≤ 16
theorem inOrd_sub {ps ns : List Str} {y : Str} (h : y ∈ inOrd ps ns) : y ∈ ps ∧ y ∈ ns := by
  unfold inOrd at h
  obtain ⟨h1, h2⟩ := List.mem_filter.mp h
  exact ⟨h1, of_decide_eq_true h2⟩
theorem PlanOk.tk {d : PlanD} (h : PlanOk d) {r : SRow} (hr : r ∈ d.steps) {y : Str} (hy : y ∈ r.2.1) : y ∈ d.places := by
  rw [← (h.st r hr).2.2.1] at hy
  exact (inOrd_sub hy).1
theorem PlanOk.gv {d : PlanD} (h : PlanOk d) {r : SRow} (hr : r ∈ d.steps) {y : Str} (hy : y ∈ r.2.2) : y ∈ d.places := by
  rw [← (h.st r hr).2.2.2] at hy
  exact (inOrd_sub hy).1
theorem inOrd_nodup {ps ns : List Str} (h : ps.Nodup) : (inOrd ps ns).Nodup := List.Sublist.nodup (List.filter_sublist) h
def zPlan (C : Addr) : Rep PlanD := ⟨fun F v d => ∃ x, v = .ref x ∧ PlanAt F C x d ∧ PlanOk d, fun e ⟨x, h1, h2, h3⟩ => ⟨x, h1, h2.keep e, h3⟩⟩
def PlanD.tk (d : PlanD) : List (Str × List Str) := d.steps.map fun s => (s.1, s.2.1)
def PlanD.gv (d : PlanD) : List (Str × List Str) := d.steps.map fun s => (s.1, s.2.2)
section
variable {fr : Fr} {Γ Γ' : Gam} {Θ : List Cel} {F F' H H' : Hp} {K : PySem.W.Frag} {C : Addr} {d : PlanD}
theorem strs_pvs {ws : List Str} (h : ∀ y ∈ ws, Asc y) : PVs zS F (ws.map V.str) ws := by
  induction ws with
  | nil => exact .nil
  | cons a ws ih => exact .cons ⟨rfl, h a (List.mem_cons_self ..)⟩ (ih fun y hy => h y (List.mem_cons_of_mem _ hy))
theorem ints_pvs {ws : List Int} : PVs zI F (ws.map V.int) ws := by
  induction ws with
  | nil => exact .nil
  | cons a ws ih => exact .cons rfl ih
theorem tab_kvs : ∀ {kvs : List (Key × V)} {rows : List (Str × List Str)}, TabAt F kvs rows → (∀ r ∈ rows, ∀ y ∈ r.2, Asc y) → KVs (zT zS) F kvs rows
  | _, _, .nil, _ => .nil
  | _, _, .cons ⟨h1, t, h2, h3⟩ r, h => .cons ⟨h1, t, _, h2, h3, strs_pvs (h _ (List.mem_cons_self ..))⟩ (tab_kvs r fun r' hr => h r' (List.mem_cons_of_mem _ hr))
/-- the class Plan, as the top left it -/
structure PlanK (K : PySem.W.Frag) (C : Addr) : Prop where
  cl : Cls K C
  nP : NoAttr K C "places"
  nB : NoAttr K C "begin"
  nT : NoAttr K C "taken"
  nG : NoAttr K C "given"
  nS : NoAttr K C "steps"
theorem fld_places (T : PlanK K C) : FldR K "places" (iz (zPlan C) d) (iz (zT zS) d.places) := fun F v ⟨x, h1, h2, h3⟩ => by
  obtain ⟨dx, tp, tb, td, tg, ts, kt, kg, p1, p2, p3, p4, p5, p6, p7, p8⟩ := h2.ex
  exact ⟨x, C, dx, _, _, h1, p1, T.cl, T.nP, rfl, tp, _, rfl, p2, strs_pvs fun y hy => (h3.pa y hy).asc⟩
theorem fld_begin (T : PlanK K C) : FldR K "begin" (iz (zPlan C) d) (iz (zT zI) d.begin) := fun F v ⟨x, h1, h2, h3⟩ => by
  obtain ⟨dx, tp, tb, td, tg, ts, kt, kg, p1, p2, p3, p4, p5, p6, p7, p8⟩ := h2.ex
  exact ⟨x, C, dx, _, _, h1, p1, T.cl, T.nB, rfl, tb, _, rfl, p3, ints_pvs⟩
theorem fld_steps (T : PlanK K C) : FldR K "steps" (iz (zPlan C) d) (iz (zT zS) d.names) := fun F v ⟨x, h1, h2, h3⟩ => by
  obtain ⟨dx, tp, tb, td, tg, ts, kt, kg, p1, p2, p3, p4, p5, p6, p7, p8⟩ := h2.ex
  refine ⟨x, C, dx, _, _, h1, p1, T.cl, T.nS, rfl, ts, _, rfl, p6, strs_pvs fun y hy => ?_⟩
  obtain ⟨r, hr, rfl⟩ := List.mem_map.mp hy
  exact (h3.st r hr).1.asc
theorem fld_taken (T : PlanK K C) : FldR K "taken" (iz (zPlan C) d) (iz (zD (zT zS)) d.tk) := fun F v ⟨x, h1, h2, h3⟩ => by
  obtain ⟨dx, tp, tb, td, tg, ts, kt, kg, p1, p2, p3, p4, p5, p6, p7, p8⟩ := h2.ex
  refine ⟨x, C, dx, _, _, h1, p1, T.cl, T.nT, rfl, td, kt, rfl, p4, tab_kvs p7 fun r hr y hy => ?_⟩
  obtain ⟨s, hs, rfl⟩ := List.mem_map.mp hr
  exact (h3.pa y (h3.tk hs hy)).asc
theorem fld_given (T : PlanK K C) : FldR K "given" (iz (zPlan C) d) (iz (zD (zT zS)) d.gv) := fun F v ⟨x, h1, h2, h3⟩ => by
  obtain ⟨dx, tp, tb, td, tg, ts, kt, kg, p1, p2, p3, p4, p5, p6, p7, p8⟩ := h2.ex
  refine ⟨x, C, dx, _, _, h1, p1, T.cl, T.nG, rfl, tg, kg, rfl, p5, tab_kvs p8 fun r hr y hy => ?_⟩
  obtain ⟨s, hs, rfl⟩ := List.mem_map.mp hr
  exact (h3.pa y (h3.gv hs hy)).asc
/-- a plan is an instance; none of these is a field of it -/
theorem ins_plan {m : Str} (hm : ([("places", (0 : Nat)), ("begin", 0), ("taken", 0), ("given", 0), ("steps", 0)] : List (Str × Nat)).lookup m = none) : InsP fr Θ (iz (zPlan C) d) C m := fun F H v ok ⟨x, h1, h2, h3⟩ => by
  obtain ⟨dx, tp, tb, td, tg, ts, kt, kg, p1, p2, p3, p4, p5, p6, p7, p8⟩ := h2.ex
  refine ⟨x, dx, _, h1, ok.fh _ _ p1, ?_⟩
  simp only [List.lookup_cons] at hm ⊢
  revert hm
  cases (m == ("places" : Str)) <;> cases (m == ("begin" : Str)) <;> cases (m == ("taken" : Str)) <;> cases (m == ("given" : Str)) <;> cases (m == ("steps" : Str)) <;> simp
theorem PlanOk.tkn {d : PlanD} : d.tk.map (·.1) = d.names := by
  unfold PlanD.tk PlanD.names
  rw [List.map_map]
  rfl
theorem PlanOk.gvn {d : PlanD} : d.gv.map (·.1) = d.names := by
  unfold PlanD.gv PlanD.names
  rw [List.map_map]
  rfl
theorem PlanOk.tkr (h : PlanOk d) {r : SRow} (hr : r ∈ d.steps) : getR d.tk r.1 = some r.2.1 := getR_nodup (by rw [PlanOk.tkn]; exact h.sn) (List.mem_map.mpr ⟨r, hr, rfl⟩)
theorem PlanOk.gvr (h : PlanOk d) {r : SRow} (hr : r ∈ d.steps) : getR d.gv r.1 = some r.2.2 := getR_nodup (by rw [PlanOk.gvn]; exact h.sn) (List.mem_map.mpr ⟨r, hr, rfl⟩)
/-- what a name's holding says -/
theorem kn_fact {i : Nat} {p : Vp} {A : Prop} {P : L2.St → Hp → Prop} (hi : Γ[i]? = some (some p)) (hA : ∀ F v, p.p F v → A) (k : A → Kn fr Γ Θ P) : Kn fr Γ Θ P := fun σ F H ok env => by
  obtain ⟨v, _, h2⟩ := env.get hi
  exact k (hA F v h2) σ F H ok env
theorem plan_ok {F : Hp} {v : V} (h : (iz (zPlan C) d).p F v) : PlanOk d := by
  obtain ⟨_, _, _, h⟩ := h
  exact h
/-- all that is new is frozen -/
def newF (F H H' : Hp) : Hp := fun a => match H a with
  | none => H' a
  | some _ => F a
theorem newF_of (fh : Same F H) (hh : Same H H') : Same F (newF F H H') ∧ Same (newF F H H') H' ∧ Newer F H (newF F H H') := by
  refine ⟨fun a o h => ?_, fun a o h => ?_, fun a o h => ?_⟩
  · unfold newF
    rw [fh a o h]
    exact h
  · unfold newF at h
    cases q : H a with
    | none => rw [q] at h; exact h
    | some u => rw [q] at h; exact hh _ _ (fh _ _ h)
  · unfold newF at h
    cases q : H a with
    | none => exact .inr rfl
    | some u => rw [q] at h; exact .inl ⟨o, h⟩
theorem newF_at {a : Addr} {o : HO} (n : H a = none) (h : H' a = some o) : newF F H H' a = some o := by
  unfold newF
  rw [n]
  exact h
end
/-- the class Plan and its name -/
structure PlanC (K : PySem.W.Frag) (mg : Str → Option Value) (C : Addr) : Prop where
  cl : Cls K C
  gC : mg "Plan" = some (.ref C)
  nP : NoAttr K C "places"
  nB : NoAttr K C "begin"
  nT : NoAttr K C "taken"
  nG : NoAttr K C "given"
  nS : NoAttr K C "steps"
section
variable {K : PySem.W.Frag} {mg : Str → Option Value} {C : Addr} {fr : Fr} {Θ : List Cel} {d : PlanD}
theorem PlanC.k (T : PlanC K mg C) : PlanK K C := ⟨T.cl, T.nP, T.nB, T.nT, T.nG, T.nS⟩
theorem fldP_places (T : PlanC K mg C) : FldP fr Θ K "places" (iz (zPlan C) d) (iz (zT zS) d.places) := (fld_places T.k).p
theorem fldP_begin (T : PlanC K mg C) : FldP fr Θ K "begin" (iz (zPlan C) d) (iz (zT zI) d.begin) := (fld_begin T.k).p
theorem fldP_steps (T : PlanC K mg C) : FldP fr Θ K "steps" (iz (zPlan C) d) (iz (zT zS) d.names) := (fld_steps T.k).p
theorem fldP_taken (T : PlanC K mg C) : FldP fr Θ K "taken" (iz (zPlan C) d) (iz (zD (zT zS)) d.tk) := (fld_taken T.k).p
theorem fldP_given (T : PlanC K mg C) : FldP fr Θ K "given" (iz (zPlan C) d) (iz (zD (zT zS)) d.gv) := (fld_given T.k).p
end
/-! shapes -/
theorem is_var {fr : Fr} {Γ : Gam} {Θ : List Cel} {K : Vp → List Cel → Prop} {i : Nat} (h : We fr Γ Θ (tVar i) K) : We fr Γ Θ (tVar i) K := h
theorem is_cS {fr : Fr} {Γ : Gam} {Θ : List Cel} {K : Vp → List Cel → Prop} {z : Str} (h : We fr Γ Θ (tC (.str z)) K) : We fr Γ Θ (tC (.str z)) K := h
theorem asc_of {z : Str} (h : (z.cps.toList.all fun c => decide (c < 128)) = true) : Asc z := fun c hc => of_decide_eq_true (List.all_eq_true.mp h c hc)
end L2

set_option Elab.async false
set_option linter.all false
set_option maxRecDepth 100000
set_option maxHeartbeats 4000000
/-! The ground: further comprehensions. -/
namespace L2
open PySem PySem.Spec PyProof.Rows PySem.HErr
section
variable {fr : Fr} {Γ Γ' : Gam} {Θ : List Cel} {F F' H H' : Hp} {K : Vp → List Cel → Prop} {Q : VK}
theorem wipe_sub {σ σ' : L2.St} {vs us : List Nat} (h : L2.wipe σ' vs = L2.wipe σ vs) (hs : ∀ v ∈ vs, v ∈ us) : L2.wipe σ' us = L2.wipe σ us := by
  have hl : σ'.length = σ.length := by
    have := congrArg List.length h
    rw [wipe_length, wipe_length] at this
    exact this
  apply List.ext_getElem?
  intro j
  have hj : (L2.wipe σ' vs)[j]? = (L2.wipe σ vs)[j]? := by rw [h]
  rw [wipe_get, wipe_get] at hj ⊢
  rw [hl] at hj ⊢
  by_cases h1 : j ∈ us ∧ j < σ.length
  · rw [if_pos h1, if_pos h1]
  · rw [if_neg h1, if_neg h1]
    have h2 : ¬ (j ∈ vs ∧ j < σ.length) := fun q => h1 ⟨hs j q.1, q.2⟩
    rw [if_neg h2, if_neg h2] at hj
    exact hj
theorem TgR.sub {g : TG} {vs us : List Nat} {p : Vp} (h : TgR g vs p Γ Γ') (hs : ∀ v ∈ vs, v ∈ us) : TgR g us p Γ Γ' := fun σ F H v fh env hp Q q => h σ F H v fh env hp Q fun σ' e hw => q σ' e (wipe_sub hw hs)
/-- [e for x in xs] -/
theorem we_lc0 {α β : Type} {r : Rep α} {s : Rep β} {xs : List α} {f : α → β} {wi : TI} {g : TG} {te : TE} {vs : List Nat} {Γ2 : α → Gam}
    (it : Wi fr Γ Θ wi fun its Θ1 => its = xs.map (iz r) ∧ Θ1 = Θ) (hl : xs.length ≤ 1000) (tg : ∀ x, TgR g vs (iz r x) (wipeG Γ vs) (Γ2 x))
    (he : ∀ x ∈ xs, ∀ c, Ev fr (Γ2 x) (c :: Θ) te (iz s (f x))) (k : K (iz (zL s) (xs.map f)) Θ) : We fr Γ Θ (tLc wi g tYes te vs) K :=
  we_lc (pr := fun _ => true) it hl tg (fun x hx c => wt_yes ⟨rfl, rfl⟩) (fun x hx _ c => he x hx c) (by
    rw [List.filter_eq_self.mpr fun _ _ => rfl]
    exact k)
/-- [e for x in xs], each entry found by its own way -/
theorem we_lcR0 {α β : Type} {r : Rep α} {s : Rep β} {xs : List α} {R : α → β → Prop} {wi : TI} {g : TG} {te : TE} {vs : List Nat} {Γ2 : α → Gam}
    (it : Wi fr Γ Θ wi fun its Θ1 => its = xs.map (iz r) ∧ Θ1 = Θ) (hl : xs.length ≤ 1000) (tg : ∀ x, TgR g vs (iz r x) (wipeG Γ vs) (Γ2 x))
    (he : ∀ x ∈ xs, ∀ c, We fr (Γ2 x) (c :: Θ) te fun q Θ' => Θ' = c :: Θ ∧ ∃ y, R x y ∧ q = iz s y) (k : ∀ ys, Paired R xs ys → K (iz (zL s) ys) Θ) : We fr Γ Θ (tLc wi g tYes te vs) K :=
  we_lcR (pr := fun _ => true) it hl tg (fun x hx c => wt_yes ⟨rfl, rfl⟩) (fun x hx _ c => he x hx c) fun ys h => by
    rw [List.filter_eq_self.mpr fun _ _ => rfl] at h
    exact k ys h
theorem flat_len {α β : Type} (f : α → List β) {l m : List α} (h : l.Sublist m) : (l.flatMap f).length ≤ (m.flatMap f).length := by
  induction h with
  | slnil => exact Nat.le_refl _
  | cons a _ ih => rw [List.flatMap_cons, List.length_append]; omega
  | cons_cons a _ ih => rw [List.flatMap_cons, List.flatMap_cons, List.length_append, List.length_append]; omega
/-- [e for x in xs if c for y in ys(x) if c'] -/
theorem we_lc2 {α β γ : Type} {r : Rep α} {r1 : Rep γ} {s : Rep β} {xs : List α} {pr : α → Bool} {ys : α → List γ} {pr1 : α → γ → Bool} {f : α → γ → β} {wi wi1 : TI} {g g1 : TG} {tt tt1 : TT} {te : TE} {vs vs1 : List Nat} {Γ2 : α → Gam} {Γ3 : α → γ → Gam}
    (it : Wi fr Γ Θ wi fun its Θ1 => its = xs.map (iz r) ∧ Θ1 = Θ) (tg : ∀ x, TgR g vs (iz r x) (wipeG Γ vs) (Γ2 x)) (ht : ∀ x ∈ xs, ∀ c, Et fr (Γ2 x) (c :: Θ) tt (pr x))
    (it1 : ∀ x ∈ xs, pr x = true → ∀ c, Wi fr (Γ2 x) (c :: Θ) wi1 fun its Θ1 => its = (ys x).map (iz r1) ∧ Θ1 = c :: Θ) (tg1 : ∀ x y, TgR g1 vs1 (iz r1 y) (wipeG (Γ2 x) vs1) (Γ3 x y))
    (ht1 : ∀ x ∈ xs, pr x = true → ∀ y ∈ ys x, ∀ c, Et fr (Γ3 x y) (c :: Θ) tt1 (pr1 x y)) (he : ∀ x ∈ xs, pr x = true → ∀ y ∈ ys x, pr1 x y = true → ∀ c, Ev fr (Γ3 x y) (c :: Θ) te (iz s (f x y)))
    (hl : ((xs.filter pr).flatMap fun x => ((ys x).filter (pr1 x)).map (f x)).length ≤ 1000) (k : K (iz (zL s) ((xs.filter pr).flatMap fun x => ((ys x).filter (pr1 x)).map (f x))) Θ) : We fr Γ Θ (tLc2 wi g tt wi1 g1 tt1 te vs vs1) K := fun σ F H ok env Q q => by
  refine it σ F H ok env _ fun its Θ1 ⟨e1, e2⟩ J F1 H1 s1 ok1 jok => ?_
  subst e1 e2
  intro D nD
  generalize hres : (fun i => ((xs.take i).filter pr).flatMap fun x => ((ys x).filter (pr1 x)).map (f x)) = res
  have hr0 : res 0 = [] := by rw [← hres]; rfl
  have hrs : ∀ {i : Nat} {x : α}, xs[i]? = some x → res (i + 1) = res i ++ if pr x = true then ((ys x).filter (pr1 x)).map (f x) else [] := fun {i x} hx => by
    rw [← hres]
    dsimp only
    rw [take_more hx, List.filter_append, List.flatMap_append, List.filter_cons]
    split
    · rw [List.filter_nil, List.flatMap_cons, List.flatMap_nil, List.append_nil]
    · rw [List.filter_nil, List.flatMap_nil]
  have hrl : ∀ i, (res i).length ≤ (res xs.length).length := fun i => by
    rw [← hres]
    dsimp only
    rw [List.take_length]
    have : ((xs.take i).filter pr).Sublist (xs.filter pr) := List.Sublist.filter pr (List.take_sublist i xs)
    exact flat_len _ this
  have hrn : res xs.length = (xs.filter pr).flatMap fun x => ((ys x).filter (pr1 x)).map (f x) := by
    rw [← hres]
    dsimp only
    rw [List.take_length]
  rw [← hrn] at hl k
  refine ⟨fun i m H' => m = xs.length - i ∧ i ≤ xs.length ∧ ∃ F2, Same F1 F2 ∧ OkF fr (cL D s (res i) :: Θ1) F2 H', ⟨xs.length, by simp, Nat.zero_le _, F1, Same.refl _, by rw [hr0]; exact ok1.mkOwn (c := cL D s []) nD rfl ⟨[], rfl, .nil⟩⟩, ?_⟩
  rintro i m H' ⟨rfl, hi, F2, s2, ok2⟩
  obtain ⟨j1, j2⟩ := jok F2 H' s2 ok2.fh
  by_cases hlt : i < xs.length
  · have hx : xs[i]? = some xs[i] := List.getElem?_eq_getElem hlt
    generalize xs[i] = x at hx
    have hm := List.mem_of_getElem? hx
    obtain ⟨jg, jy⟩ := j1 i (iz r x) (by rw [List.getElem?_map, hx]; rfl)
    refine .inr ⟨jg, fun H3 => ∃ F3, Same F1 F3 ∧ OkF fr (cL D s (res (i + 1)) :: Θ1) F3 H3, fun H3 p => ⟨xs.length - (i + 1), by omega, rfl, hlt, p⟩, fun v H3 y => ?_⟩
    obtain ⟨F3, e1, e2, e3, e4, e5⟩ := jy v H3 y
    have ok3 := ok2.grow e2 e1 e3 e4
    have s3 := s2.trans e1
    refine tg x (L2.wipe σ vs) F3 H3 v ok3.fh ((env.mono (s1.trans s3)).wipe vs) e5 _ fun σ2 env2 hw => ⟨by rw [hw, wipe_idem], ?_⟩
    have et := hrs hx
    refine ht x hm _ σ2 F3 H3 ok3 env2 _ fun b Θ2 ⟨e6, e7⟩ F4 H4 s4 ok4 => ?_
    subst e6 e7
    by_cases hb : pr x = true
    · rw [if_pos hb]
      rw [if_pos hb] at et
      refine it1 x hm hb _ σ2 F4 H4 ok4 (env2.mono s4) _ fun its1 Θ3 ⟨e8, e9⟩ J1 F5 H5 s5 ok5 jok1 => ?_
      subst e8 e9
      refine ⟨fun j m H6 => m = (ys x).length - j ∧ j ≤ (ys x).length ∧ ∃ F6, Same F5 F6 ∧ OkF fr (cL D s (res i ++ (((ys x).take j).filter (pr1 x)).map (f x)) :: Θ1) F6 H6, ⟨(ys x).length, by simp, Nat.zero_le _, F5, Same.refl _, by rw [List.take_zero, List.filter_nil, List.map_nil, List.append_nil]; exact ok5⟩, ?_⟩
      rintro j m H6 ⟨rfl, hj, F6, s6, ok6⟩
      obtain ⟨k1, k2⟩ := jok1 F6 H6 s6 ok6.fh
      by_cases hjl : j < (ys x).length
      · have hy : (ys x)[j]? = some (ys x)[j] := List.getElem?_eq_getElem hjl
        generalize (ys x)[j] = z at hy
        have hmz := List.mem_of_getElem? hy
        obtain ⟨kg, ky⟩ := k1 j (iz r1 z) (by rw [List.getElem?_map, hy]; rfl)
        refine .inr ⟨kg, fun H7 => ∃ F7, Same F5 F7 ∧ OkF fr (cL D s (res i ++ (((ys x).take (j + 1)).filter (pr1 x)).map (f x)) :: Θ1) F7 H7, fun H7 p => ⟨(ys x).length - (j + 1), by omega, rfl, hjl, p⟩, fun v2 H7 y2 => ?_⟩
        obtain ⟨F7, g1', g2', g3', g4', g5'⟩ := ky v2 H7 y2
        have ok7 := ok6.grow g2' g1' g3' g4'
        have s7 := s6.trans g1'
        refine tg1 x z (L2.wipe σ2 vs1) F7 H7 v2 ok7.fh ((((env2.mono s4).mono s5).mono s7).wipe vs1) g5' _ fun σ3 env3 hw3 => ⟨by rw [hw3, wipe_idem], ?_⟩
        have et2 : ((ys x).take (j + 1)).filter (pr1 x) = ((ys x).take j).filter (pr1 x) ++ if pr1 x z = true then [z] else [] := by
          rw [take_more hy, List.filter_append, List.filter_cons]
          rfl
        refine ht1 x hm hb z hmz _ σ3 F7 H7 ok7 env3 _ fun b2 Θ4 ⟨f1, f2⟩ F8 H8 s8 ok8 => ?_
        subst f1 f2
        by_cases hb2 : pr1 x z = true
        · rw [if_pos hb2]
          rw [if_pos hb2] at et2
          refine he x hm hb z hmz hb2 _ σ3 F8 H8 ok8 (env3.mono s8) _ fun p Θ5 ⟨f3, f4⟩ u F9 H9 s9 ok9 hp => ?_
          subst f3 f4
          obtain ⟨_, ⟨o, h2, acc, rfl, h4⟩, _⟩ := ok9.ce _ (List.mem_cons_self ..)
          have ok10 := ok9.mut (i := 0) (c := cL D s (res i ++ (((ys x).take j).filter (pr1 x)).map (f x))) (c' := cL D s (res i ++ (((ys x).take (j + 1)).filter (pr1 x)).map (f x))) (o := .lst (acc ++ [u])) rfl rfl rfl ⟨_, rfl, by
            rw [et2, List.map_append, ← List.append_assoc]
            exact PySem.Paired.snoc h4 hp⟩
          refine ⟨acc, h2, ?_, F9, (s7.trans s8).trans s9, ok10⟩
          rw [Paired.len h4]
          have a1 := hrl (i + 1)
          rw [et, List.length_append, List.length_map] at a1
          have a2 : ((((ys x).take j).filter (pr1 x))).length ≤ ((ys x).filter (pr1 x)).length := (List.Sublist.filter (pr1 x) (List.take_sublist j (ys x))).length_le
          rw [List.length_append, List.length_map]
          exact small1000 (by omega)
        · rw [if_neg hb2]
          rw [if_neg hb2, List.append_nil] at et2
          exact ⟨F8, s7.trans s8, by rw [et2]; exact ok8⟩
      · have ej : j = (ys x).length := by omega
        subst ej
        rw [List.take_length, ← et] at ok6
        exact .inl ⟨by rw [List.length_map] at k2; exact k2, F6, ((s3.trans s4).trans s5).trans s6, ok6⟩
    · rw [if_neg hb]
      rw [if_neg hb, List.append_nil] at et
      exact ⟨F4, s3.trans s4, by rw [et]; exact ok4⟩
  · have e : i = xs.length := by omega
    subst e
    obtain ⟨_, ⟨o, h2, acc, rfl, h4⟩, _⟩ := ok2.ce _ (List.mem_cons_self ..)
    have ok3 := ok2.frz (i := 0) (c := cL D s (res xs.length)) rfl rfl h2
    have sD : Same F2 (upd F2 D (.lst acc)) := same_upd (ok2.ce _ (List.mem_cons_self ..)).1
    refine .inl ⟨by rw [List.length_map] at j2; exact j2, q _ _ k _ _ H' ((s1.trans s2).trans sD) ok3 ⟨D, acc, rfl, upd_same, Paired.imp2 (fun _ _ h => s.mono sD h) h4⟩⟩
/-- a cell's entries are walked -/
theorem it_of {α : Type} {r : Rep α} {xs : List α} {wi : TI} (w : Wi fr Γ Θ wi fun its Θ1 => its = xs.map (iz r) ∧ Θ1 = Θ) : Wi fr Γ Θ wi fun its Θ1 => its = xs.map (iz r) ∧ Θ1 = Θ := w
theorem we_nil {α : Type} (r : Rep α) (k : ∀ a, K (zAt a) (cL a r [] :: Θ)) : We fr Γ Θ (tLst tNil) K := we_own r (wa_nil ⟨[], rfl, by decide, k⟩)
theorem we_nilF {α : Type} (r : Rep α) (k : K (iz (zL r) []) Θ) : We fr Γ Θ (tLst tNil) K := we_lst (r := r) (wa_nil ⟨[], rfl, by decide, k⟩)
theorem we_lst1 {α : Type} {r : Rep α} {x : α} {t : TE} (w : We fr Γ Θ t fun p Θ1 => p = iz r x ∧ K (iz (zL r) [x]) Θ1) : We fr Γ Θ (tLst (tCons t tNil)) K := we_lst (r := r) (wa_cons (w.imp fun p Θ1 ⟨e, k⟩ => wa_nil ⟨[x], by rw [e]; rfl, by simp, k⟩))
/-- [e for x in xs for y in ys(x)] -/
theorem we_lc20 {α β γ : Type} {r : Rep α} {r1 : Rep γ} {s : Rep β} {xs : List α} {ys : α → List γ} {f : α → γ → β} {wi wi1 : TI} {g g1 : TG} {te : TE} {vs vs1 : List Nat} {Γ2 : α → Gam} {Γ3 : α → γ → Gam}
    (it : Wi fr Γ Θ wi fun its Θ1 => its = xs.map (iz r) ∧ Θ1 = Θ) (tg : ∀ x, TgR g vs (iz r x) (wipeG Γ vs) (Γ2 x))
    (it1 : ∀ x ∈ xs, ∀ c, Wi fr (Γ2 x) (c :: Θ) wi1 fun its Θ1 => its = (ys x).map (iz r1) ∧ Θ1 = c :: Θ) (tg1 : ∀ x y, TgR g1 vs1 (iz r1 y) (wipeG (Γ2 x) vs1) (Γ3 x y))
    (he : ∀ x ∈ xs, ∀ y ∈ ys x, ∀ c, Ev fr (Γ3 x y) (c :: Θ) te (iz s (f x y)))
    (hl : (xs.flatMap fun x => (ys x).map (f x)).length ≤ 1000) (k : K (iz (zL s) (xs.flatMap fun x => (ys x).map (f x))) Θ) : We fr Γ Θ (tLc2 wi g tYes wi1 g1 tYes te vs vs1) K := by
  have e : ((xs.filter fun _ => true).flatMap fun x => ((ys x).filter fun _ => true).map (f x)) = xs.flatMap fun x => (ys x).map (f x) := by
    rw [List.filter_eq_self.mpr fun _ _ => rfl]
    congr 1
    funext x
    rw [List.filter_eq_self.mpr fun _ _ => rfl]
  exact we_lc2 (pr := fun _ => true) (pr1 := fun _ _ => true) it tg (fun _ _ _ => wt_yes ⟨rfl, rfl⟩) (fun x hx _ c => it1 x hx c) tg1 (fun _ _ _ _ _ _ => wt_yes ⟨rfl, rfl⟩) (fun x hx _ y hy _ c => he x hx y hy c) (by rw [e]; exact hl) (by rw [e]; exact k)
theorem mem_intsF {n : Nat} {k : Int} (h : k ∈ intsF 0 n) : ∃ j : Nat, j < n ∧ k = j := by
  unfold intsF at h
  obtain ⟨j, hj, e⟩ := List.mem_map.mp h
  exact ⟨j, List.mem_range.mp hj, by omega⟩
theorem flat_le {α β : Type} {f : α → List β} {m : Nat} : ∀ {l : List α}, (∀ x ∈ l, (f x).length ≤ m) → (l.flatMap f).length ≤ l.length * m
  | [], _ => by simp
  | a :: l, h => by
    rw [List.flatMap_cons, List.length_append, List.length_cons, Nat.succ_mul]
    have h1 := h a (List.mem_cons_self ..)
    have h2 := flat_le (f := f) (l := l) fun x hx => h x (List.mem_cons_of_mem _ hx)
    omega
end
end L2

set_option Elab.async false
set_option linter.all false
set_option maxRecDepth 100000
set_option maxHeartbeats 4000000
/-! The ground: lists of lists of one's own; truth of values; entering and leaving the old layer. -/
namespace L2
open PySem PySem.Spec PyProof.Rows PySem.HErr
/-- an address, as a value -/
def zRef : Rep Addr := ⟨fun _ v x => v = .ref x, fun _ h => h⟩
section
variable {fr : Fr} {Γ Γ' : Gam} {Θ Θ' : List Cel} {F F' H H' : Hp} {K : Vp → List Cel → Prop} {Q : VK}
theorem OkF.perm (k : OkF fr Θ F H) (p : Θ.Perm Θ') : OkF fr Θ' F H := ⟨k.fh, k.f0, k.nw, k.h0, k.al, (p.map Cel.a).nodup_iff.mp k.nd, fun c hc => k.ce c (p.mem_iff.mpr hc)⟩
theorem Kn.perm {P : L2.St → Hp → Prop} (k : Kn fr Γ Θ' P) (p : Θ.Perm Θ') : Kn fr Γ Θ P := fun σ F H ok env => k σ F H (ok.perm p) env
theorem OkF.less {c : Cel} (k : OkF fr (c :: Θ) F H) : OkF fr Θ F H := ⟨k.fh, k.f0, k.nw, k.h0, k.al, (List.nodup_cons.mp k.nd).2, fun d hd => k.ce d (List.mem_cons_of_mem _ hd)⟩
/-- a cell is let go -/
theorem Kn.less {P : L2.St → Hp → Prop} {c : Cel} (k : Kn fr Γ Θ P) : Kn fr Γ (c :: Θ) P := fun σ F H ok env => k σ F H ok.less env
def cells {α : Type} (r : Rep α) (as : List Addr) (ls : List (List α)) : List Cel := (as.zip ls).map fun x => cL x.1 r x.2
theorem cells_get {α : Type} {r : Rep α} {as : List Addr} {ls : List (List α)} {j : Nat} {a : Addr} {l : List α} (h1 : as[j]? = some a) (h2 : ls[j]? = some l) : (cells r as ls)[j]? = some (cL a r l) := by
  unfold cells
  rw [List.getElem?_map, List.getElem?_zip_eq_some (z := (a, l)) |>.mpr ⟨h1, h2⟩]
  rfl
theorem cells_set {α : Type} {r : Rep α} {a : Addr} {l : List α} : ∀ {as : List Addr} {ls : List (List α)} {j : Nat}, as[j]? = some a → (cells r as ls).set j (cL a r l) = cells r as (ls.set j l)
  | [], _, _, h => by simp at h
  | _ :: _, [], _, _ => rfl
  | x :: as, y :: ls, 0, h => by cases h; rfl
  | x :: as, y :: ls, j + 1, h => by
    show cL x r y :: (cells r as ls).set j (cL a r l) = cL x r y :: cells r as (ls.set j l)
    rw [cells_set (as := as) (ls := ls) (j := j) h]
theorem cells_snoc {α : Type} {r : Rep α} {a : Addr} {l : List α} {as : List Addr} {ls : List (List α)} (h : as.length = ls.length) : cells r (as ++ [a]) (ls ++ [l]) = cells r as ls ++ [cL a r l] := by
  unfold cells
  rw [List.zip_append h, List.map_append]
  rfl
theorem cells_own {α : Type} {r : Rep α} {as : List Addr} {ls : List (List α)} {c : Cel} (h : c ∈ cells r as ls) : c.own = true := by
  obtain ⟨x, _, rfl⟩ := List.mem_map.mp h
  rfl
theorem okf_frzN {α : Type} {r : Rep α} : ∀ {as : List Addr} {ls : List (List α)} {F : Hp}, as.length = ls.length → OkF fr (cells r as ls ++ Θ) F H → ∃ F', Same F F' ∧ OkF fr Θ F' H ∧ Paired (fun a l => (zL r).p F' (.ref a) l) as ls
  | [], [], F, _, ok => ⟨F, Same.refl F, ok, .nil⟩
  | [], _ :: _, _, h, _ => by cases h
  | _ :: _, [], _, h, _ => by cases h
  | a :: as, l :: ls, F, h, ok => by
    have ok : OkF fr (cL a r l :: (cells r as ls ++ Θ)) F H := ok
    obtain ⟨h0, ⟨o, h2, vs, rfl, h4⟩, _⟩ := ok.ce _ (List.mem_cons_self ..)
    have h0 : F a = none := h0
    have h2 : H a = some (.lst vs) := h2
    have ok2 := ok.frz (i := 0) (c := cL a r l) rfl rfl h2
    have s2 : Same F (upd F a (.lst vs)) := same_upd h0
    obtain ⟨F', s3, ok3, p3⟩ := okf_frzN (as := as) (ls := ls) (by simpa using h) ok2
    refine ⟨F', s2.trans s3, ok3, .cons ⟨a, vs, rfl, s3 _ _ upd_same, Paired.imp2 (fun _ _ h => r.mono (s2.trans s3) h) h4⟩ p3⟩
theorem kn_frzN {α : Type} {r : Rep α} {G : Addr} {ga : List Addr} {ls : List (List α)} {i : Nat} {P : L2.St → Hp → Prop} (hi : Γ[i]? = some (some (zAt G))) (hp : Θ.Perm (cells r ga ls ++ cL G zRef ga :: Θ')) (hl : ga.length = ls.length) (k : Kn fr (Γ.set i (some (iz (zL (zL r)) ls))) Θ' P) : Kn fr Γ Θ P := fun σ F H ok env => by
  obtain ⟨F1, s1, ok1, p1⟩ := okf_frzN hl (ok.perm hp)
  obtain ⟨v, h1, h2⟩ := env.get hi
  have h2 : v = .ref G := h2
  subst h2
  obtain ⟨h0, ⟨o, h3, vs, rfl, h5⟩, _⟩ := ok1.ce _ (List.mem_cons_self ..)
  have h0 : F1 G = none := h0
  have h3 : H G = some (.lst vs) := h3
  have ok2 := ok1.frz (i := 0) (c := cL G zRef ga) rfl rfl h3
  have s2 : Same F1 (upd F1 G (.lst vs)) := same_upd h0
  have e : σ.set i (some (V.ref G)) = σ := by
    apply List.ext_getElem?
    intro m
    rw [List.getElem?_set]
    split
    · rename_i q
      subst q
      rw [if_pos (List.getElem?_eq_some_iff.mp h1).1, h1]
    · rfl
  have pv : ∀ {vs : List V} {ga : List Addr} {ls : List (List α)}, PVs zRef F1 vs ga → Paired (fun a l => (zL r).p F1 (.ref a) l) ga ls → PVs (zL r) (upd F1 G (.lst vs)) vs ls := by
    intro vs ga ls h
    have : ∀ {F2 : Hp}, Same F1 F2 → ∀ {ls : List (List α)}, Paired (fun a l => (zL r).p F1 (.ref a) l) ga ls → PVs (zL r) F2 vs ls := by
      intro F2 s2
      induction h with
      | nil => intro ls q; cases q; exact .nil
      | cons a _ ih => intro ls q; cases q with
        | cons b c =>
          have a : _ = V.ref _ := a
          subst a
          exact .cons ((zL r).mono s2 b) (ih c)
    exact this (same_upd h0)
  have := ((env.mono s1).mono s2).set (i := i) (p := iz (zL (zL r)) ls) (v := .ref G) ⟨G, vs, rfl, upd_same, pv h5 p1⟩
  rw [e] at this
  exact k σ _ H ok2 this
theorem rt_frz0 {α : Type} {r : Rep α} {xs : List α} {a : Addr} {rt : VK} (k : Rt fr Θ rt (iz (zL r) xs)) : Rt fr (cL a r xs :: Θ) rt (zAt a) := rt_frz (j := 0) rfl k
/-- tuple unpacking of a list with two entries -/
theorem tgL2 {Kf : PySem.W.Frag} {i j : Nat} {α : Type} {r : Rep α} {x y : α} (hij : i ≠ j) (g : TG) (hg : ∀ v σ H Q, (∃ a xs, v = .ref a ∧ SqL Kf H a xs ∧ xs.length = 2 ∧ gCons (gName i) (gCons (gName j) gNil) xs σ H Q) → g v σ H Q) : TgR g [i, j] (iz (zL r) [x, y]) Γ ((Γ.set i (some (iz r x))).set j (some (iz r y))) := fun σ F H v fh env hp Q q => by
  obtain ⟨a, vs, rfl, h2, h3⟩ := hp
  cases h3 with
  | cons h4 h3 => cases h3 with
    | cons h5 h3 => cases h3 with
      | nil =>
        refine hg _ _ _ _ ⟨a, _, rfl, SqL.of (fh _ _ h2), rfl, _, _, rfl, _, _, rfl, rfl, q _ ((env.set (p := iz r x) h4).set (p := iz r y) h5) ?_⟩
        show ((((σ.set i (some _)).set j (some _)).set j none).set i none) = (σ.set j none).set i none
        rw [List.set_set, set_comm' hij, List.set_set]
end
end L2

set_option Elab.async false
set_option linter.all false
set_option maxRecDepth 100000
set_option maxHeartbeats 4000000
/-! The ground: instances that are being built. -/
namespace L2
open PySem PySem.Spec PyProof.Rows PySem.HErr
/-- an instance of one's own -/
def cI (a C dx : Addr) (fs : List (Str × Vp)) : Cel := ⟨a, true, fun F o => ∃ us, o = .ins C dx us ∧ FsOk F fs us, fun e ⟨us, h1, h2⟩ => ⟨us, h1, h2.mono e⟩⟩
def putP (f : Str) (p : Vp) : List (Str × Vp) → List (Str × Vp)
  | [] => [(f, p)]
  | (g, q) :: r => if g = f then (g, p) :: r else (g, q) :: putP f p r
section
variable {fr : Fr} {Γ Γ' : Gam} {Θ Θ' : List Cel} {F F' H H' : Hp} {K : Vp → List Cel → Prop} {Q : VK}
theorem FsOk.put {f : Str} {p : Vp} {v : V} (hp : p.p F v) : ∀ {fs : List (Str × Vp)} {us : List (Str × V)}, FsOk F fs us → FsOk F (putP f p fs) (putF f v us)
  | _, _, .nil => .cons ⟨rfl, hp⟩ .nil
  | (g, q) :: fs, (g', u) :: us, .cons ⟨h1, h2⟩ r => by
    have h1 : g = g' := h1
    subst h1
    unfold putP putF
    by_cases e : g = f
    · rw [if_pos e, if_pos e]
      exact .cons ⟨rfl, hp⟩ r
    · rw [if_neg e, if_neg e]
      exact .cons ⟨rfl, h2⟩ (FsOk.put hp r)
/-- self.f = e -/
theorem kn_fldPut {Kf : PySem.W.Frag} {f : Str} {ta tv : TE} {D : Ends} (w : We fr Γ Θ tv fun p Θ1 => We fr Γ Θ1 ta fun q Θ2 => ∃ a C dx fs j, q = zAt a ∧ Θ2[j]? = some (cI a C dx fs) ∧ Cls Kf C ∧ NoAttr Kf C f ∧ fs.length < 1000 ∧ Kn fr Γ (Θ2.set j (cI a C dx (putP f p fs))) D.nx) : Kn fr Γ Θ (sFld Kf ta tv f D) := fun σ F H ok env =>
  w σ F H ok env _ fun p Θ1 k v F1 H1 s1 ok1 hp => k σ F1 H1 ok1 (env.mono s1) _ fun p2 Θ2 ⟨a, C, dx, fs, j, e, hj, hc, hn, hl, kk⟩ v2 F2 H2 s2 ok2 hp2 => by
    subst e
    obtain ⟨_, ⟨o, h2, us, rfl, h4⟩, _⟩ := ok2.ce _ (List.mem_of_getElem? hj)
    exact ⟨a, C, dx, us, hp2, h2, hc, hn, by rw [← Paired.len h4]; exact hl, kk σ F2 _ (ok2.mut hj rfl rfl ⟨_, rfl, h4.put (p.mono s2 hp)⟩) ((env.mono s1).mono s2)⟩
theorem fld_C {Kf : PySem.W.Frag} {f : Str} {a C dx : Addr} {fs : List (Str × Vp)} {q : Vp} (hc : cI a C dx fs ∈ Θ) (h3 : Cls Kf C) (h4 : NoAttr Kf C f) (h5 : fs.lookup f = some q) : FldP fr Θ Kf f (zAt a) q := fun F H v ok hv => by
  obtain ⟨_, ⟨o, h2, us, rfl, h6⟩, _⟩ := ok.ce _ hc
  obtain ⟨u, h7, h8⟩ := h6.look h5
  exact ⟨a, C, dx, us, u, hv, h2, h3, h4, h7, h8⟩
/-! ### __init__ -/
def minus (H : Hp) (x : Addr) : Hp := fun a => if a = x then none else H a
theorem minus_ne {x a : Addr} (h : a ≠ x) : minus H x a = H a := if_neg h
theorem minus_self {x : Addr} : minus H x x = none := if_pos rfl
/-- what __init__ promises: out tells what the instance at x then is -/
def spI (C : Addr) (pre : Pre) : Sp := fun vs H Q E => ∃ x dx vs' F ps out err, vs = .ref x :: vs' ∧ H x = some (.ins C dx []) ∧ F x = none ∧ Same F H ∧ Paired (fun (p : Vp) v => p.p F v) ps vs' ∧ pre ps out err ∧
  (∀ p, out p → ∀ F' H', Same (minus H x) H' → Same F F' → Same F' H' → Newer F (minus H x) F' → p.p F' (.ref x) → Q .non H') ∧ (∀ e, err e → ∀ F' H' d us, Same (minus H x) H' → Same F F' → Same F' H' → Newer F (minus H x) F' → F' d = some (.xd us) → FsOk F' e.fs us → E (.ref e.C) (some d) H')
theorem we_mk {C : Addr} {pre : Pre} {E : L2.St → XK} {t : TA} (w : Wa fr Γ Θ t fun ps Θ1 => ∃ out err, pre ps out err ∧ (∀ p, out p → K p Θ1) ∧ ∀ e, err e → Kr fr Γ Θ1 (fun cls d σ H => E σ cls d H) e) : We fr Γ Θ (tMkD C (spI C pre) E t) K := fun σ F H ok env Q q =>
  w σ F H ok env _ fun ps Θ1 ⟨out, err, hp, ko, ke⟩ vs F1 H1 s1 ok1 hps => fun x dx nx ndx ne => by
    have hs : Same H1 (upd (upd H1 dx (.own x)) x (.ins C dx [])) := (same_upd ndx).trans (same_upd (by rw [upd_ne (Ne.symm ne)]; exact nx))
    have hm : ∀ {H' : Hp}, Same (minus (upd (upd H1 dx (.own x)) x (.ins C dx [])) x) H' → Same H1 H' := fun h a o e => h a o (by rw [minus_ne (ne_of_none e nx)]; exact hs a o e)
    have hn : ∀ {F' : Hp}, Newer F1 (minus (upd (upd H1 dx (.own x)) x (.ins C dx [])) x) F' → Newer F1 H1 F' := fun h a o e => by
      rcases h a o e with h' | h'
      · exact .inl h'
      · by_cases ea : a = x
        · rw [ea]; exact .inr nx
        · rw [minus_ne ea] at h'
          exact .inr (hs.free h')
    refine ⟨x, dx, vs, F1, ps, out, err, rfl, upd_same, ok1.fh.free nx, ok1.fh.trans hs, hps, hp, fun p ho F' H' hh ff fh nw hv => ⟨rfl, ?_⟩, fun e he F' H' d us hh ff fh nw hd hf => ?_⟩
    · exact q p Θ1 (ko p ho) _ F' H' (s1.trans ff) (ok1.grow (hm hh) ff fh (hn nw)) hv
    · exact ke e he σ F' H' (ok1.grow (hm hh) ff fh (hn nw)) ((env.mono s1).mono ff) d us hd hf
theorem okf_init {x C dx : Addr} (hx : H x = some (.ins C dx [])) (fx : F x = none) (fh : Same F H) : OkF ⟨F, minus H x, []⟩ [cI x C dx []] F H := by
  refine ⟨fh, Same.refl F, fun a o h => .inl ⟨o, h⟩, fun a o _ h => ?_, fun a o h => ?_, by simp, fun c hc => ?_⟩
  · have h : minus H x a = some o := h
    by_cases e : a = x
    · rw [e, minus_self] at h; cases h
    · rw [minus_ne e] at h; exact h
  · have h : minus H x a = some o := h
    by_cases e : a = x
    · rw [e, minus_self] at h; cases h
    · rw [minus_ne e] at h; exact ⟨o, h⟩
  · rw [List.mem_singleton.mp hc]
    exact ⟨fx, ⟨_, hx, [], rfl, .nil⟩, minus_self⟩
end
section
variable {P : Program} {w : World} {K : PySem.W.Frag} {mg : Str → Option Value} {base : Heap} {qual : Str} {C : Addr} {st : Stmt} {N ps : List Str} {k : Nat} {pre : Pre}
/-- the body of __init__: at its end the instance is what out says -/
theorem SrcI.okAX (F : SrcI K C qual st ps) (S : FnScope N ps (defScope st)) (len : ∀ qs out err, pre qs out err → qs.length + 1 = ps.length)
    (hbody : ∀ (f : Addr) (cdv : Value) (A : Around) (outer : List Env) (s : Shared) (H : Hp) (E : XK) (qs : List Vp) (out : Vp → Prop) (err : Er → Prop), Room k (A.deeper (envOfC qual (defScope st) s.heap.objs.size f cdv)) → pre qs out err →
      ∃ t, PSs (cxOf (L2.CX P w) P w K mg base N qual (defScope st) f cdv A outer s H E) (defBody st) t ∧ ∀ fr x dx (Q : L2.St → Hp → Prop) (rt : VK), (∀ p, out p → ∀ σ F H, (∃ Θ, OkF fr Θ F H) → p.p F (.ref x) → Q σ H) → (∀ p, out p → ∀ F H, (∃ Θ, OkF fr Θ F H) → p.p F (.ref x) → rt .non H) → Rse fr E err →
        Kn fr (envOf N (zAt x :: qs)) [cI x C dx []] (t { nx := Q, rt := rt })) : DefI P w K mg base (L2.CX P w) (k + 1) C ps (spI C pre) := by
  refine F.okX S (fun vs H Q E h => ?_) (fun f cdv A outer s H vs Q E hr h => ?_)
  · obtain ⟨x, dx, vs', F, qs, out, err, rfl, _, _, _, h2, h3, _⟩ := h
    rw [List.length_cons, ← Paired.len h2]
    exact len _ _ _ h3
  · obtain ⟨x, dx, vs', F, qs, out, err, rfl, hx, fx, fh, h2, h3, h4, h5⟩ := h
    obtain ⟨t, ht, hk⟩ := hbody f cdv A outer s H E qs out err hr h3
    have post : ∀ {Θ : List Cel} {F' H' : Hp}, OkF ⟨F, minus H x, []⟩ Θ F' H' → Same (minus H x) H' ∧ Same F F' ∧ Same F' H' ∧ Newer F (minus H x) F' := fun ok => ⟨fun a o h => ok.h0 a o (by simp) h, ok.f0, ok.fh, ok.nw⟩
    have c1 : ∀ p, out p → ∀ (σ : L2.St) F' H', (∃ Θ, OkF ⟨F, minus H x, []⟩ Θ F' H') → p.p F' (.ref x) → Q .non H' := fun p hp σ F' H' ⟨Θ, ok⟩ hv => by
      obtain ⟨a, b, c, d⟩ := post ok
      exact h4 p hp F' H' a b c d hv
    have c2 : Rse ⟨F, minus H x, []⟩ E err := fun e he Θ F' H' d us ok hd hf => by
      obtain ⟨a, b, c, n⟩ := post ok
      exact h5 e he F' H' d us a b c n hd hf
    exact ⟨t, ht, hk ⟨F, minus H x, []⟩ x dx (fun _ H' => Q .non H') Q c1 (fun p hp F' H' => c1 p hp [] F' H') c2 _ F H (okf_init hx fx fh) (env_start (vs := .ref x :: vs') (.cons rfl h2))⟩
end
/-! ### from the old promises -/
section
variable {F F' H H' : Hp} {E : XK} {err : Er → Prop}
/-- fields that are plain stand anywhere -/
theorem PErs.rais {C : Addr} {fs : List (Str × Vp)} {us : List (Str × V)} (h : PErs F H E err) (fh : Same F H) (he : err ⟨C, fs⟩) (hf : ∀ F', FsOk F' fs us) : Rais E H C us := fun H' d sm nd hd => by
  obtain ⟨n1, n2, n3⟩ := newF_of fh sm
  exact h _ he _ H' d us sm n1 n2 n3 (newF_at nd hd) (hf _)
theorem fs1S {f : Str} {z : Str} (h : Asc z) : ∀ F', FsOk F' [(f, iz zS z)] [(f, .str z)] := fun _ => .cons ⟨rfl, rfl, h⟩ .nil
theorem fs1I {f : Str} {n : Int} : ∀ F', FsOk F' [(f, iz zI n)] [(f, .int n)] := fun _ => .cons ⟨rfl, rfl⟩ .nil
theorem Post.flat {Q : VK} {out : Vp → Prop} {p : Vp} {v : V} (h : Post F H Q out) (fh : Same F H) (hp : out p) (hf : ∀ F', p.p F' v) (hh : Same H H') : Q v H' := h p hp v F H' hh (Same.refl F) (fh.trans hh) (Newer.refl _ _) (hf F)
theorem Post.new {Q : VK} {out : Vp → Prop} {p : Vp} {v : V} (h : Post F H Q out) (fh : Same F H) (hp : out p) (hh : Same H H') (hf : p.p (newF F H H') v) : Q v H' := by
  obtain ⟨n1, n2, n3⟩ := newF_of fh hh
  exact h p hp v _ H' hh n1 n2 n3 hf
end
end L2

set_option Elab.async false
set_option linter.all false
set_option maxRecDepth 100000
set_option maxHeartbeats 4000000
/-! The ground: promises of defs that get cells lent. -/
namespace L2
open PySem PySem.Spec PyProof.Rows PySem.HErr
def tagC (c : Cel) : Addr × Bool := (c.a, c.own)
def CellsAt (F H : Hp) (Θ : List Cel) : Prop := (Θ.map Cel.a).Nodup ∧ ∀ c ∈ Θ, F c.a = none ∧ ∃ o, H c.a = some o ∧ c.φ F o
def SameX (as : List Addr) (H H' : Hp) : Prop := ∀ a o, a ∉ as → H a = some o → H' a = some o
def minusL (H : Hp) (as : List Addr) : Hp := fun a => if a ∈ as then none else H a
abbrev PreC := List Vp → List Cel → (Vp → List Cel → Prop) → (Er → List Cel → Prop) → Prop
structure Eff (F H : Hp) (Θ : List Cel) (F' H' : Hp) (Θ' : List Cel) : Prop where
  hh : SameX (Θ.map Cel.a) H H'
  ff : Same F F'
  fh : Same F' H'
  nw : Newer F H F'
  ca : CellsAt F' H' Θ'
  tg : Θ'.map tagC = Θ.map tagC
def spC (pre : PreC) : Sp := fun vs H Q E => ∃ F ps Θ out err, Same F H ∧ CellsAt F H Θ ∧ Paired (fun (p : Vp) v => p.p F v) ps vs ∧ pre ps Θ out err ∧
  (∀ p Θ', out p Θ' → ∀ v F' H', Eff F H Θ F' H' Θ' → p.p F' v → Q v H') ∧ (∀ e Θ', err e Θ' → ∀ F' H' d us, Eff F H Θ F' H' Θ' → F' d = some (.xd us) → FsOk F' e.fs us → E (.ref e.C) (some d) H')
section
variable {fr : Fr} {Γ Γ' : Gam} {Θ Θ' Θl Θr : List Cel} {F F' H H' : Hp} {K : Vp → List Cel → Prop} {Q : VK}
theorem tag_a (h : Θ'.map tagC = Θ.map tagC) : Θ'.map Cel.a = Θ.map Cel.a := by
  have := congrArg (List.map Prod.fst) h
  rw [List.map_map, List.map_map] at this
  exact this
theorem tag_mem (h : Θ'.map tagC = Θ.map tagC) {c : Cel} (hc : c ∈ Θ') : ∃ d ∈ Θ, d.a = c.a ∧ d.own = c.own := by
  have : tagC c ∈ Θ.map tagC := by rw [← h]; exact List.mem_map.mpr ⟨c, hc, rfl⟩
  obtain ⟨d, hd, e⟩ := List.mem_map.mp this
  exact ⟨d, hd, (Prod.mk.inj e).1, (Prod.mk.inj e).2⟩
theorem OkF.cellsAt (k : OkF fr (Θl ++ Θr) F H) : CellsAt F H Θl := by
  have := k.nd
  rw [List.map_append, List.nodup_append] at this
  exact ⟨this.1, fun c hc => by
    obtain ⟨h1, h2, _⟩ := k.ce c (List.mem_append_left _ hc)
    exact ⟨h1, h2⟩⟩
theorem OkF.eff (k : OkF fr (Θl ++ Θr) F H) (e : Eff F H Θl F' H' Θ') : OkF fr (Θ' ++ Θr) F' H' := by
  have ea := tag_a e.tg
  have hB : ∀ c ∈ Θl ++ Θr, ∀ a o, a ∉ fr.B → fr.H0 a = some o → a ≠ c.a := fun c hc a o hb h q => by
    obtain ⟨_, _, h4⟩ := k.ce c hc
    cases ho : c.own with
    | true =>
      rw [if_pos ho] at h4
      rw [q, h4] at h
      cases h
    | false =>
      rw [if_neg (by rw [ho]; exact Bool.false_ne_true)] at h4
      rw [q] at hb
      exact hb h4
  have nl : ∀ a o, a ∉ fr.B → fr.H0 a = some o → a ∉ Θl.map Cel.a := fun a o hb h q => by
    obtain ⟨c, hc, e⟩ := List.mem_map.mp q
    exact hB c (List.mem_append_left _ hc) a o hb h e.symm
  refine ⟨e.fh, k.f0.trans e.ff, fun a o h => ?_, fun a o hb h => ?_, fun a o h => ?_, ?_, fun c hc => ?_⟩
  · rcases e.nw a o h with ⟨o', h'⟩ | h'
    · exact k.nw a o' h'
    · exact .inr (k.h0n h')
  · exact e.hh a o (nl a o hb h) (k.h0 a o hb h)
  · by_cases q : a ∈ Θl.map Cel.a
    · rw [← ea] at q
      obtain ⟨c, hc, e1⟩ := List.mem_map.mp q
      obtain ⟨_, o', h', _⟩ := e.ca.2 c hc
      exact ⟨o', by rw [← e1]; exact h'⟩
    · obtain ⟨o', h'⟩ := k.al a o h
      exact ⟨o', e.hh a o' q h'⟩
  · rw [List.map_append, ea, ← List.map_append]
    exact k.nd
  · rcases List.mem_append.mp hc with hc | hc
    · obtain ⟨h1, h2⟩ := e.ca.2 c hc
      refine ⟨h1, h2, ?_⟩
      obtain ⟨d, hd, e1, e2⟩ := tag_mem e.tg hc
      have := (k.ce d (List.mem_append_left _ hd)).2.2
      rw [e1, e2] at this
      exact this
    · obtain ⟨h1, ⟨u, h2, h3⟩, h4⟩ := k.ce c (List.mem_append_right _ hc)
      have ne : c.a ∉ Θl.map Cel.a := fun q => by
        have := k.nd
        rw [List.map_append, List.nodup_append] at this
        exact this.2.2 _ q _ (List.mem_map.mpr ⟨c, hc, rfl⟩) rfl
      refine ⟨?_, ⟨u, e.hh _ _ ne h2, c.mono e.ff h3⟩, h4⟩
      cases q : F' c.a with
      | none => rfl
      | some o =>
        rcases e.nw _ _ q with ⟨o', h'⟩ | h'
        · rw [h1] at h'
          cases h'
        · rw [h2] at h'
          cases h'
theorem sps_C {pre : PreC} {E : L2.St → XK} {ps : List Vp} {out : Vp → List Cel → Prop} {err : Er → List Cel → Prop} (hp : pre ps Θl out err) (pm : Θ.Perm (Θl ++ Θr)) (k : ∀ p Θ', out p Θ' → K p (Θ' ++ Θr)) (x : ∀ e Θ', err e Θ' → Kr fr Γ (Θ' ++ Θr) (fun cls d σ H => E σ cls d H) e) : Sps fr Γ Θ (spC pre) E ps K := fun σ F H vs ok env hps Q q => by
  have ok := ok.perm pm
  exact ⟨F, ps, Θl, out, err, ok.fh, ok.cellsAt, hps, hp, fun p Θ' ho v F' H' ef h => q p _ (k p Θ' ho) v F' H' ef.ff (ok.eff ef) h,
    fun e Θ' he F' H' d us ef hd hf => x e Θ' he σ F' H' (ok.eff ef) (env.mono ef.ff) d us hd hf⟩
theorem okf_lent (fh : Same F H) (hc : CellsAt F H Θ) (ho : ∀ c ∈ Θ, c.own = true) : OkF ⟨F, minusL H (Θ.map Cel.a), []⟩ Θ F H := by
  refine ⟨fh, Same.refl F, fun a o h => .inl ⟨o, h⟩, fun a o _ h => ?_, fun a o h => ?_, hc.1, fun c hm => ?_⟩
  · have h : minusL H (Θ.map Cel.a) a = some o := h
    unfold minusL at h
    split at h
    · cases h
    · exact h
  · have h : minusL H (Θ.map Cel.a) a = some o := h
    unfold minusL at h
    split at h
    · cases h
    · exact ⟨o, h⟩
  · obtain ⟨h1, h2⟩ := hc.2 c hm
    refine ⟨h1, h2, ?_⟩
    rw [if_pos (ho c hm)]
    show minusL H (Θ.map Cel.a) c.a = none
    unfold minusL
    rw [if_pos (List.mem_map.mpr ⟨c, hm, rfl⟩)]
/-- Θ'' holds the cells Θ' (and others, which are let go) -/
theorem eff_of {Θ'' Θx : List Cel} (hc : CellsAt F H Θ) (ok : OkF ⟨F, minusL H (Θ.map Cel.a), []⟩ Θ'' F' H') (pm : Θ''.Perm (Θ' ++ Θx)) (tg : Θ'.map tagC = Θ.map tagC) : Eff F H Θ F' H' Θ' := by
  refine ⟨fun a o hn h => ok.h0 a o (by simp) ?_, ok.f0, ok.fh, fun a o h => ?_, (ok.perm pm).cellsAt, tg⟩
  · show minusL H (Θ.map Cel.a) a = some o
    unfold minusL
    rw [if_neg hn]
    exact h
  · rcases ok.nw a o h with h' | h'
    · exact .inl h'
    · have h' : minusL H (Θ.map Cel.a) a = none := h'
      unfold minusL at h'
      split at h'
      · rename_i q
        rw [← tag_a tg] at q
        obtain ⟨c, hc', e⟩ := List.mem_map.mp q
        obtain ⟨h1, _⟩ := (ok.perm pm).cellsAt.2 c hc'
        rw [e, h] at h1
        cases h1
      · exact .inr h'
/-- what a def with lent cells returns: the cells Θ' are there then -/
def RetC (fr : Fr) (Q : VK) (tg : List (Addr × Bool)) (out : Vp → List Cel → Prop) : Prop := ∀ p Θ', out p Θ' → Θ'.map tagC = tg → ∀ Θ'' Θx, Θ''.Perm (Θ' ++ Θx) → Rt fr Θ'' Q p
def RseC (fr : Fr) (E : XK) (tg : List (Addr × Bool)) (err : Er → List Cel → Prop) : Prop := ∀ e Θ', err e Θ' → Θ'.map tagC = tg → ∀ Θ'' Θx, Θ''.Perm (Θ' ++ Θx) → ∀ F H d us, OkF fr Θ'' F H → F d = some (.xd us) → FsOk F e.fs us → E (.ref e.C) (some d) H
theorem RetC.fine {fr' : Fr} {tg : List (Addr × Bool)} {out : Vp → List Cel → Prop} (h : RetC fr Q tg out) (l : FrLe fr fr') : RetC fr' Q tg out := fun p Θ' ho ht Θ'' Θx pm => (h p Θ' ho ht Θ'' Θx pm).fine l
theorem RseC.fine {fr' : Fr} {E : XK} {tg : List (Addr × Bool)} {err : Er → List Cel → Prop} (h : RseC fr E tg err) (l : FrLe fr fr') : RseC fr' E tg err := fun e Θ' he ht Θ'' Θx pm F H d us ok => h e Θ' he ht Θ'' Θx pm F H d us (ok.le l)
theorem kr_C {E : XK} {tg : List (Addr × Bool)} {err : Er → List Cel → Prop} {e : Er} {Θx : List Cel} (h : RseC fr E tg err) (he : err e Θ') (ht : Θ'.map tagC = tg) (pm : Θ.Perm (Θ' ++ Θx)) : Kr fr Γ Θ (fun cls d _ H => E cls d H) e := fun σ F H ok env d us hd hf => h e Θ' he ht Θ Θx pm F H d us ok hd hf
end
section
variable {P : Program} {w : World} {K : PySem.W.Frag} {mg : Str → Option Value} {base : Heap} {x m qual : Str} {C : Addr} {st : Stmt} {N ps : List Str} {k : Nat} {pre : PreC}
theorem Src.okC (F : Src K mg x st ps) (S : FnScope N ps (defScope st)) (len : ∀ qs Θ out err, pre qs Θ out err → qs.length = ps.length ∧ ∀ c ∈ Θ, c.own = true)
    (hbody : ∀ (f : Addr) (cdv : Value) (A : Around) (outer : List Env) (s : Shared) (H : Hp) (E : XK) (qs : List Vp) (Θ : List Cel) (out : Vp → List Cel → Prop) (err : Er → List Cel → Prop), Room k (A.deeper (envOfC x (defScope st) s.heap.objs.size f cdv)) → pre qs Θ out err →
      ∃ t, PSs (cxOf CX0 P w K mg base N x (defScope st) f cdv A outer s H E).nox (defBody st) t ∧ ∀ fr Q, RetC fr Q (Θ.map tagC) out → Kn fr (envOf N qs) Θ (t { nx := fun _ H' => Q .non H', rt := Q })) : Def P w K mg base CX0 (k + 1) x ps (spC pre) := by
  refine F.ok S (fun vs H Q E h => ?_) (fun f cdv A outer s H vs Q E hr h => ?_)
  · obtain ⟨F, qs, Θ, out, err, _, _, h2, h3, _⟩ := h
    rw [← Paired.len h2]
    exact (len _ _ _ _ h3).1
  · obtain ⟨F, qs, Θ, out, err, h1, hc, h2, h3, h4, h5⟩ := h
    obtain ⟨t, ht, hk⟩ := hbody f cdv A outer s H E qs Θ out err hr h3
    exact ⟨t, ht, hk ⟨F, minusL H (Θ.map Cel.a), []⟩ Q (fun p Θ' ho tg Θ'' Θx pm v F' H' ok hv => h4 p Θ' ho v F' H' (eff_of hc ok pm tg) hv) _ F H (okf_lent h1 hc (len _ _ _ _ h3).2) (env_start h2)⟩
theorem Src.okCX (F : Src K mg x st ps) (S : FnScope N ps (defScope st)) (len : ∀ qs Θ out err, pre qs Θ out err → qs.length = ps.length ∧ ∀ c ∈ Θ, c.own = true)
    (hbody : ∀ (f : Addr) (cdv : Value) (A : Around) (outer : List Env) (s : Shared) (H : Hp) (E : XK) (qs : List Vp) (Θ : List Cel) (out : Vp → List Cel → Prop) (err : Er → List Cel → Prop), Room k (A.deeper (envOfC x (defScope st) s.heap.objs.size f cdv)) → pre qs Θ out err →
      ∃ t, PSs (cxOf (L2.CX P w) P w K mg base N x (defScope st) f cdv A outer s H E) (defBody st) t ∧ ∀ fr Q, RetC fr Q (Θ.map tagC) out → RseC fr E (Θ.map tagC) err → Kn fr (envOf N qs) Θ (t { nx := fun _ H' => Q .non H', rt := Q })) : Def P w K mg base (L2.CX P w) (k + 1) x ps (spC pre) := by
  refine F.okX S (fun vs H Q E h => ?_) (fun f cdv A outer s H vs Q E hr h => ?_)
  · obtain ⟨F, qs, Θ, out, err, _, _, h2, h3, _⟩ := h
    rw [← Paired.len h2]
    exact (len _ _ _ _ h3).1
  · obtain ⟨F, qs, Θ, out, err, h1, hc, h2, h3, h4, h5⟩ := h
    obtain ⟨t, ht, hk⟩ := hbody f cdv A outer s H E qs Θ out err hr h3
    exact ⟨t, ht, hk ⟨F, minusL H (Θ.map Cel.a), []⟩ Q (fun p Θ' ho tg Θ'' Θx pm v F' H' ok hv => h4 p Θ' ho v F' H' (eff_of hc ok pm tg) hv) (fun e Θ' he tg Θ'' Θx pm F' H' d us ok hd hf => h5 e Θ' he F' H' d us (eff_of hc ok pm tg) hd hf) _ F H (okf_lent h1 hc (len _ _ _ _ h3).2) (env_start h2)⟩
theorem SrcM.okCX (F : SrcM K C m qual st ps) (S : FnScope N ps (defScope st)) (len : ∀ qs Θ out err, pre qs Θ out err → qs.length = ps.length ∧ ∀ c ∈ Θ, c.own = true)
    (hbody : ∀ (f : Addr) (cdv : Value) (A : Around) (outer : List Env) (s : Shared) (H : Hp) (E : XK) (qs : List Vp) (Θ : List Cel) (out : Vp → List Cel → Prop) (err : Er → List Cel → Prop), Room k (A.deeper (envOfC qual (defScope st) s.heap.objs.size f cdv)) → pre qs Θ out err →
      ∃ t, PSs (cxOf (L2.CX P w) P w K mg base N qual (defScope st) f cdv A outer s H E) (defBody st) t ∧ ∀ fr Q, RetC fr Q (Θ.map tagC) out → RseC fr E (Θ.map tagC) err → Kn fr (envOf N qs) Θ (t { nx := fun _ H' => Q .non H', rt := Q })) : DefM P w K mg base (L2.CX P w) (k + 1) C m ps (spC pre) := by
  refine F.okX S (fun vs H Q E h => ?_) (fun f cdv A outer s H vs Q E hr h => ?_)
  · obtain ⟨F, qs, Θ, out, err, _, _, h2, h3, _⟩ := h
    rw [← Paired.len h2]
    exact (len _ _ _ _ h3).1
  · obtain ⟨F, qs, Θ, out, err, h1, hc, h2, h3, h4, h5⟩ := h
    obtain ⟨t, ht, hk⟩ := hbody f cdv A outer s H E qs Θ out err hr h3
    exact ⟨t, ht, hk ⟨F, minusL H (Θ.map Cel.a), []⟩ Q (fun p Θ' ho tg Θ'' Θx pm v F' H' ok hv => h4 p Θ' ho v F' H' (eff_of hc ok pm tg) hv) (fun e Θ' he tg Θ'' Θx pm F' H' d us ok hd hf => h5 e Θ' he F' H' d us (eff_of hc ok pm tg) hd hf) _ F H (okf_lent h1 hc (len _ _ _ _ h3).2) (env_start h2)⟩
theorem SrcM.okC (F : SrcM K C m qual st ps) (S : FnScope N ps (defScope st)) (len : ∀ qs Θ out err, pre qs Θ out err → qs.length = ps.length ∧ ∀ c ∈ Θ, c.own = true)
    (hbody : ∀ (f : Addr) (cdv : Value) (A : Around) (outer : List Env) (s : Shared) (H : Hp) (E : XK) (qs : List Vp) (Θ : List Cel) (out : Vp → List Cel → Prop) (err : Er → List Cel → Prop), Room k (A.deeper (envOfC qual (defScope st) s.heap.objs.size f cdv)) → pre qs Θ out err →
      ∃ t, PSs (cxOf CX0 P w K mg base N qual (defScope st) f cdv A outer s H E).nox (defBody st) t ∧ ∀ fr Q, RetC fr Q (Θ.map tagC) out → Kn fr (envOf N qs) Θ (t { nx := fun _ H' => Q .non H', rt := Q })) : DefM P w K mg base CX0 (k + 1) C m ps (spC pre) := by
  refine F.ok S (fun vs H Q E h => ?_) (fun f cdv A outer s H vs Q E hr h => ?_)
  · obtain ⟨F, qs, Θ, out, err, _, _, h2, h3, _⟩ := h
    rw [← Paired.len h2]
    exact (len _ _ _ _ h3).1
  · obtain ⟨F, qs, Θ, out, err, h1, hc, h2, h3, h4, h5⟩ := h
    obtain ⟨t, ht, hk⟩ := hbody f cdv A outer s H E qs Θ out err hr h3
    exact ⟨t, ht, hk ⟨F, minusL H (Θ.map Cel.a), []⟩ Q (fun p Θ' ho tg Θ'' Θx pm v F' H' ok hv => h4 p Θ' ho v F' H' (eff_of hc ok pm tg) hv) _ F H (okf_lent h1 hc (len _ _ _ _ h3).2) (env_start h2)⟩
end
end L2

set_option Elab.async false
set_option linter.all false
set_option maxRecDepth 100000
set_option maxHeartbeats 4000000
/-! The ground: isinstance, shapes for the walker, entering from the old layer. -/
namespace L2
open PySem PySem.Spec PyProof.Rows PySem.HErr
def zTy (n : String) : Vp := ⟨fun _ v => v = .ty n, fun _ h => h⟩
section
variable {fr : Fr} {Γ Γ' : Gam} {Θ Θ' : List Cel} {F F' H H' : Hp} {K : Vp → List Cel → Prop} {Q : VK} {Kf : PySem.W.Frag}
theorem we_cT {n : String} (k : K (zTy n) Θ) : We fr Γ Θ (tC (.ty n)) K := we_c (fun _ => rfl) k
theorem we_cR {a : Addr} (k : K (zAt a) Θ) : We fr Γ Θ (tC (.ref a)) K := we_c (fun _ => rfl) k
def TyP (fr : Fr) (Θ : List Cel) (Kf : PySem.W.Frag) (p : Vp) (t : Value) : Prop := ∀ F H v, OkF fr Θ F H → p.p F v → TyX Kf H v t
theorem ty_L {α : Type} {r : Rep α} {xs : List α} : TyP fr Θ Kf (iz (zL r) xs) (.type "list") := fun F H v ok ⟨a, vs, h1, h2, h3⟩ => by subst h1; exact .base (.lst (ok.fh _ _ h2))
theorem ty_T {α : Type} {r : Rep α} {xs : List α} : TyP fr Θ Kf (iz (zT r) xs) (.type "tuple") := fun F H v ok ⟨a, vs, h1, h2, h3⟩ => by subst h1; exact .base (.tup (ok.fh _ _ h2))
theorem ty_2 {α β : Type} {r : Rep α} {s : Rep β} {x : α × β} : TyP fr Θ Kf (iz (z2 r s) x) (.type "tuple") := fun F H v ok ⟨a, u, w, h1, h2, h3⟩ => by subst h1; exact .base (.tup (ok.fh _ _ h2))
theorem ty_I {n : Int} : TyP fr Θ Kf (iz zI n) (.type "int") := fun F H v ok h => by cases (show v = V.int n from h); exact .base (.int _)
theorem ty_B {n : Bool} : TyP fr Θ Kf (iz zB n) (.type "bool") := fun F H v ok h => by cases (show v = V.bl n from h); exact .base (.bl _)
theorem ty_S {n : Str} : TyP fr Θ Kf (iz zS n) (.type "str") := fun F H v ok h => by cases h.1; exact .base (.str _)
theorem ty_N : TyP fr Θ Kf zNon (.type "NoneType") := fun F H v ok h => by cases (show v = V.non from h); exact .base .non
theorem ty_C {α : Type} {r : Rep α} {xs : List α} {a : Addr} (hc : cL a r xs ∈ Θ) : TyP fr Θ Kf (zAt a) (.type "list") := fun F H v ok hv => by
  have hv : v = .ref a := hv
  subst hv
  obtain ⟨_, ⟨o, h2, vs, rfl, h4⟩, _⟩ := ok.ce _ hc
  exact .base (.lst h2)
theorem cb_isi {p : Vp} {a n : String} {b : Bool} (h : TyP fr Θ Kf p (.type a)) (e : kitB a n = some b) (k : K (iz zB b) Θ) : Cbs fr Θ (rIsi Kf) [p, zTy n] K := fun F H vs ok hps Q q => by
  cases hps with
  | cons h1 hp => cases hp with
    | cons h2 hp => cases hp with
      | nil =>
        have h2 : _ = V.ty n := h2
        subst h2
        exact ⟨_, _, _, _, b, rfl, .ty _, h F H _ ok h1, kit_ty e, q.go k ok rfl⟩
theorem kit_ll : kitB "list" "list" = some true := by decide +kernel
theorem kit_tt : kitB "tuple" "tuple" = some true := by decide +kernel
theorem kit_ii : kitB "int" "int" = some true := by decide +kernel
theorem kit_ib : kitB "int" "bool" = some false := by decide +kernel
theorem kit_bb : kitB "bool" "bool" = some true := by decide +kernel
theorem kit_bi : kitB "bool" "int" = some true := by decide +kernel
theorem kit_ss : kitB "str" "str" = some true := by decide +kernel
theorem kit_lt : kitB "list" "tuple" = some false := by decide +kernel
theorem kit_tl : kitB "tuple" "list" = some false := by decide +kernel
/-! shapes -/
theorem im_t {b : Bool} {t : TT} {c : Bool} (h : b = true → Et fr Γ Θ t c) : b = true → Et fr Γ Θ t c := h
theorem im_f {b : Bool} {t : TT} {c : Bool} (h : b = false → Et fr Γ Θ t c) : b = false → Et fr Γ Θ t c := h
theorem im_tv {b : Bool} {t : TE} {p : Vp} (h : b = true → Ev fr Γ Θ t p) : b = true → Ev fr Γ Θ t p := h
theorem im_fv {b : Bool} {t : TE} {p : Vp} (h : b = false → Ev fr Γ Θ t p) : b = false → Ev fr Γ Θ t p := h
/-! from the old layer -/
theorem okf_box {b l : Addr} (h : Box H b l) : OkF ⟨minus H b, H, [b]⟩ [cBox false b l] (minus H b) H := by
  obtain ⟨ns, i, c, r, h1, h2, h3, h4⟩ := h.ex
  refine ⟨fun a o h => ?_, Same.refl _, fun a o h => .inl ⟨o, h⟩, fun a o _ h => h, fun a o h => ⟨o, h⟩, by simp, fun c' hc => ?_⟩
  · by_cases e : a = b
    · rw [e, minus_self] at h; cases h
    · rw [minus_ne e] at h; exact h
  · rw [List.mem_singleton.mp hc]
    exact ⟨minus_self, ⟨_, h1, ns, i, c, r, rfl, by rw [minus_ne h4]; exact h2, h3⟩, List.mem_singleton.mpr rfl⟩
theorem enter {b l : Addr} {σ : L2.St} {P : L2.St → Hp → Prop} (h : Box H b l) (e : EnvF Γ σ (minus H b)) (k : Kn ⟨minus H b, H, [b]⟩ Γ [cBox false b l] P) : P σ H := k σ _ H (okf_box h) e
theorem rows_rep {b l p ap as' : Addr} {prs : List (Str × Int)} {srs : List SRow} (hb : Box H b l) (hp : H p = some (.tup [.ref ap, .ref as'])) (hP : PRows H ap prs) (hS : SRows H as' srs) (pa : ∀ r ∈ prs, Asc r.1) (sa : ∀ r ∈ srs, Asc r.1 ∧ (∀ y ∈ r.2.1, Asc y) ∧ ∀ y ∈ r.2.2, Asc y) :
    (z2 (zL (z2 zS zI)) (zL (z3 zS (zL zS) (zL zS)))).p (minus H b) (.ref p) (prs, srs) := by
  obtain ⟨ts, h1, h2⟩ := hP
  obtain ⟨us, h3, h4⟩ := hS
  have nt : ∀ {t : Addr} {xs : List V}, H t = some (.tup xs) → minus H b t = some (.tup xs) := fun h => by rw [minus_ne (tup_ne hb h)]; exact h
  have nl : ∀ {t : Addr} {ws : List Str}, H t = some (.lst (ws.map V.str)) → minus H b t = some (.lst (ws.map V.str)) := fun h => by rw [minus_ne (lst_strs_ne hb h)]; exact h
  have nr : ∀ {t : Addr} {ws : List Addr}, H t = some (.lst (ws.map V.ref)) → minus H b t = some (.lst (ws.map V.ref)) := fun h => by rw [minus_ne (lst_refs_ne hb h)]; exact h
  refine ⟨p, _, _, rfl, nt hp, ⟨ap, _, rfl, nr h1, ?_⟩, ⟨as', _, rfl, nr h3, ?_⟩⟩
  · clear h1
    induction h2 with
    | nil => exact .nil
    | cons a _ ih => exact .cons ⟨_, _, _, rfl, nt a, ⟨rfl, pa _ (List.mem_cons_self ..)⟩, rfl⟩ (ih fun r hr => pa r (List.mem_cons_of_mem _ hr))
  · clear h3
    induction h4 with
    | nil => exact .nil
    | cons a _ ih =>
      obtain ⟨x, y, a1, a2, a3, _⟩ := a
      obtain ⟨s1, s2, s3⟩ := sa _ (List.mem_cons_self ..)
      exact .cons ⟨_, _, _, _, rfl, nt a1, ⟨rfl, s1⟩, ⟨x, _, rfl, nl a2, strs_pvs s2⟩, ⟨y, _, rfl, nl a3, strs_pvs s3⟩⟩ (ih fun r hr => sa r (List.mem_cons_of_mem _ hr))
end
end L2

set_option Elab.async false
set_option linter.all false
set_option maxRecDepth 100000
set_option maxHeartbeats 4000000
/-! The ground: defs that hand out cells of their own; cells that are lent to be read. -/
namespace L2
open PySem PySem.Spec PyProof.Rows PySem.HErr
abbrev PreN := List Vp → (Vp → List Cel → Prop) → (Er → Prop) → Prop
def spN (pre : PreN) : Sp := fun vs H Q E => ∃ F ps out err, Same F H ∧ Paired (fun (p : Vp) v => p.p F v) ps vs ∧ pre ps out err ∧
  (∀ p Θn, out p Θn → ∀ v F' H', Same H H' → Same F F' → Same F' H' → Newer F H F' → CellsAt F' H' Θn → (∀ c ∈ Θn, H c.a = none ∧ c.own = true) → p.p F' v → Q v H') ∧ PErs F H E err
section
variable {fr : Fr} {Γ Γ' : Gam} {Θ Θ' Θn : List Cel} {F F' H H' : Hp} {K : Vp → List Cel → Prop} {Q : VK}
theorem OkF.more (k : OkF fr Θ F H) (hh : Same H H') (ff : Same F F') (fh : Same F' H') (nw : Newer F H F') (ca : CellsAt F' H' Θn) (hn : ∀ c ∈ Θn, H c.a = none ∧ c.own = true) : OkF fr (Θn ++ Θ) F' H' := by
  have g := k.grow hh ff fh nw
  refine ⟨g.fh, g.f0, g.nw, g.h0, g.al, ?_, fun c hc => ?_⟩
  · rw [List.map_append, List.nodup_append]
    refine ⟨ca.1, g.nd, fun a ha b hb e => ?_⟩
    obtain ⟨c, hc, rfl⟩ := List.mem_map.mp ha
    obtain ⟨d, hd, rfl⟩ := List.mem_map.mp hb
    obtain ⟨_, ⟨o, h2, _⟩, _⟩ := k.ce d hd
    have h1 : H c.a = none := (hn c hc).1
    rw [e, h2] at h1
    cases h1
  · rcases List.mem_append.mp hc with hc | hc
    · obtain ⟨h1, h2⟩ := ca.2 c hc
      obtain ⟨h3, h4⟩ := hn c hc
      exact ⟨h1, h2, by rw [if_pos h4]; exact k.h0n h3⟩
    · exact g.ce c hc
theorem sps_N {pre : PreN} {E : L2.St → XK} {ps : List Vp} {out : Vp → List Cel → Prop} {err : Er → Prop} (hp : pre ps out err) (k : ∀ p Θn, out p Θn → K p (Θn ++ Θ)) (x : ∀ e, err e → Kr fr Γ Θ (fun cls d σ H => E σ cls d H) e) : Sps fr Γ Θ (spN pre) E ps K := fun σ F H vs ok env hps Q q =>
  ⟨F, ps, out, err, ok.fh, hps, hp, fun p Θn ho v F' H' hh ff fh nw ca hn h => q p _ (k p Θn ho) v F' H' ff (ok.more hh ff fh nw ca hn) h,
    fun e he F' H' d us hh ff fh nw hd hf => x e he σ F' H' (ok.grow hh ff fh nw) (env.mono ff) d us hd hf⟩
def RetN (fr : Fr) (Q : VK) (out : Vp → List Cel → Prop) : Prop := ∀ p Θn, out p Θn → (∀ c ∈ Θn, c.own = true) → ∀ Θ'' Θx, Θ''.Perm (Θn ++ Θx) → Rt fr Θ'' Q p
theorem RetN.fine {fr' : Fr} {out : Vp → List Cel → Prop} (h : RetN fr Q out) (l : FrLe fr fr') : RetN fr' Q out := fun p Θn ho hn Θ'' Θx pm => (h p Θn ho hn Θ'' Θx pm).fine l
end
section
variable {P : Program} {w : World} {K : PySem.W.Frag} {mg : Str → Option Value} {base : Heap} {x m qual : Str} {C : Addr} {st : Stmt} {N ps : List Str} {k : Nat} {pre : PreN}
theorem retN_of {F H : Hp} {Q : VK} {out : Vp → List Cel → Prop} (h4 : ∀ p Θn, out p Θn → ∀ v F' H', Same H H' → Same F F' → Same F' H' → Newer F H F' → CellsAt F' H' Θn → (∀ c ∈ Θn, H c.a = none ∧ c.own = true) → p.p F' v → Q v H') : RetN ⟨F, H, []⟩ Q out := fun p Θn ho hn Θ'' Θx pm v F' H' ok hv => by
  have ok2 := ok.perm pm
  obtain ⟨a, b, c, d⟩ := ok.post
  refine h4 p Θn ho v F' H' a b c d ok2.cellsAt (fun e he => ⟨?_, hn e he⟩) hv
  have := (ok2.ce e (List.mem_append_left _ he)).2.2
  rw [if_pos (hn e he)] at this
  exact this
theorem Src.okN (F : Src K mg x st ps) (S : FnScope N ps (defScope st)) (len : ∀ qs out err, pre qs out err → qs.length = ps.length)
    (hbody : ∀ (f : Addr) (cdv : Value) (A : Around) (outer : List Env) (s : Shared) (H : Hp) (E : XK) (qs : List Vp) (out : Vp → List Cel → Prop) (err : Er → Prop), Room k (A.deeper (envOfC x (defScope st) s.heap.objs.size f cdv)) → pre qs out err →
      ∃ t, PSs (cxOf CX0 P w K mg base N x (defScope st) f cdv A outer s H E).nox (defBody st) t ∧ ∀ fr Q, RetN fr Q out → Kn fr (envOf N qs) [] (t { nx := fun _ H' => Q .non H', rt := Q })) : Def P w K mg base CX0 (k + 1) x ps (spN pre) := by
  refine F.ok S (fun vs H Q E h => ?_) (fun f cdv A outer s H vs Q E hr h => ?_)
  · obtain ⟨F, qs, out, err, _, h2, h3, _⟩ := h
    rw [← Paired.len h2]
    exact len _ _ _ h3
  · obtain ⟨F, qs, out, err, h1, h2, h3, h4, h5⟩ := h
    obtain ⟨t, ht, hk⟩ := hbody f cdv A outer s H E qs out err hr h3
    exact ⟨t, ht, hk _ Q (retN_of h4) _ F H (OkF.start h1) (env_start h2)⟩
theorem Src.okNX (F : Src K mg x st ps) (S : FnScope N ps (defScope st)) (len : ∀ qs out err, pre qs out err → qs.length = ps.length)
    (hbody : ∀ (f : Addr) (cdv : Value) (A : Around) (outer : List Env) (s : Shared) (H : Hp) (E : XK) (qs : List Vp) (out : Vp → List Cel → Prop) (err : Er → Prop), Room k (A.deeper (envOfC x (defScope st) s.heap.objs.size f cdv)) → pre qs out err →
      ∃ t, PSs (cxOf (L2.CX P w) P w K mg base N x (defScope st) f cdv A outer s H E) (defBody st) t ∧ ∀ fr Q, RetN fr Q out → Rse fr E err → Kn fr (envOf N qs) [] (t { nx := fun _ H' => Q .non H', rt := Q })) : Def P w K mg base (L2.CX P w) (k + 1) x ps (spN pre) := by
  refine F.okX S (fun vs H Q E h => ?_) (fun f cdv A outer s H vs Q E hr h => ?_)
  · obtain ⟨F, qs, out, err, _, h2, h3, _⟩ := h
    rw [← Paired.len h2]
    exact len _ _ _ h3
  · obtain ⟨F, qs, out, err, h1, h2, h3, h4, h5⟩ := h
    obtain ⟨t, ht, hk⟩ := hbody f cdv A outer s H E qs out err hr h3
    exact ⟨t, ht, hk _ Q (retN_of h4) h5.rse _ F H (OkF.start h1) (env_start h2)⟩
end
theorem nest_frz {α : Type} {r : Rep α} {fr : Fr} {Θ : List Cel} {F H : Hp} {a : Addr} {as : List Addr} {ls : List (List α)} (ok : OkF fr (cL a zRef as :: (cells r as ls ++ Θ)) F H) (hl : as.length = ls.length) : ∃ F', Same F F' ∧ OkF fr Θ F' H ∧ (iz (zL (zL r)) ls).p F' (.ref a) := by
  obtain ⟨F1, s1, ok1, p1⟩ := okf_frzN (Θ := cL a zRef as :: Θ) hl (ok.perm (List.perm_middle.symm))
  obtain ⟨h0, ⟨o, h3, vs, rfl, h5⟩, _⟩ := ok1.ce _ (List.mem_cons_self ..)
  have h0 : F1 a = none := h0
  have h3 : H a = some (.lst vs) := h3
  have ok2 := ok1.frz (i := 0) (c := cL a zRef as) rfl rfl h3
  have s2 : Same F1 (upd F1 a (.lst vs)) := same_upd h0
  refine ⟨_, s1.trans s2, ok2, a, vs, rfl, upd_same, ?_⟩
  have : ∀ {F2 : Hp}, Same F1 F2 → ∀ {vs : List V} {as : List Addr} {ls : List (List α)}, PVs zRef F1 vs as → Paired (fun a l => (zL r).p F1 (.ref a) l) as ls → PVs (zL r) F2 vs ls := by
    intro F2 s2 vs as ls h
    induction h generalizing ls with
    | nil => intro q; cases q; exact .nil
    | cons a _ ih => intro q; cases q with
      | cons b c =>
        have a : _ = V.ref _ := a
        subst a
        exact .cons ((zL r).mono s2 b) (ih c)
  exact this s2 h5 p1
/-- a list of lists of one's own is handed out, and frozen at once -/
theorem sps_Nf {fr : Fr} {Γ : Gam} {Θ : List Cel} {K : Vp → List Cel → Prop} {pre : PreN} {E : L2.St → XK} {ps : List Vp} {out : Vp → List Cel → Prop} {err : Er → Prop} (hp : pre ps out err) (k : ∀ p Θn, out p Θn → ∃ (α : Type) (r : Rep α) (a : Addr) (as : List Addr) (ls : List (List α)), as.length = ls.length ∧ p = zAt a ∧ Θn = cL a zRef as :: cells r as ls ∧ K (iz (zL (zL r)) ls) Θ) (x : ∀ e, err e → Kr fr Γ Θ (fun cls d σ H => E σ cls d H) e) : Sps fr Γ Θ (spN pre) E ps K := fun σ F H vs ok env hps Q q =>
  ⟨F, ps, out, err, ok.fh, hps, hp, fun p Θn ho v F' H' hh ff fh nw ca hn h => by
    obtain ⟨α, r, a, as, ls, hl, e1, e2, kk⟩ := k p Θn ho
    subst e1 e2
    have h : v = .ref a := h
    subst h
    obtain ⟨F2, s2, ok2, h2⟩ := nest_frz (ok.more hh ff fh nw ca hn) hl
    exact q _ Θ kk _ F2 H' (ff.trans s2) ok2 h2,
    fun e he F' H' d us hh ff fh nw hd hf => x e he σ F' H' (ok.grow hh ff fh nw) (env.mono ff) d us hd hf⟩
/-- a list of one's own is handed out, and frozen at once -/
theorem sps_N1 {fr : Fr} {Γ : Gam} {Θ : List Cel} {K : Vp → List Cel → Prop} {pre : PreN} {E : L2.St → XK} {ps : List Vp} {out : Vp → List Cel → Prop} {err : Er → Prop} (hp : pre ps out err) (k : ∀ p Θn, out p Θn → ∃ (α : Type) (r : Rep α) (a : Addr) (xs : List α), p = zAt a ∧ Θn = [cL a r xs] ∧ K (iz (zL r) xs) Θ) (x : ∀ e, err e → Kr fr Γ Θ (fun cls d σ H => E σ cls d H) e) : Sps fr Γ Θ (spN pre) E ps K := fun σ F H vs ok env hps Q q =>
  ⟨F, ps, out, err, ok.fh, hps, hp, fun p Θn ho v F' H' hh ff fh nw ca hn h => by
    obtain ⟨α, r, a, xs, e1, e2, kk⟩ := k p Θn ho
    subst e1 e2
    have h : v = .ref a := h
    subst h
    have ok1 := ok.more hh ff fh nw ca hn
    obtain ⟨h0, ⟨o, h3, us, rfl, h5⟩, _⟩ := ok1.ce _ (List.mem_cons_self ..)
    have h0 : F' a = none := h0
    have h3 : H' a = some (.lst us) := h3
    have ok2 := ok1.frz (i := 0) (c := cL a r xs) rfl rfl h3
    have s2 : Same F' (upd F' a (.lst us)) := same_upd h0
    exact q _ Θ kk _ _ H' (ff.trans s2) ok2 ⟨a, us, rfl, upd_same, Paired.imp2 (fun _ _ h => r.mono s2 h) h5⟩,
    fun e he F' H' d us hh ff fh nw hd hf => x e he σ F' H' (ok.grow hh ff fh nw) (env.mono ff) d us hd hf⟩
/-! ### a comprehension's list, kept as one's own -/
section
variable {fr : Fr} {Γ Γ' : Gam} {Θ Θ' Θn : List Cel} {F F' H H' : Hp} {K : Vp → List Cel → Prop} {Q : VK}
theorem we_lcRO {α β : Type} {r : Rep α} {s : Rep β} {xs : List α} {pr : α → Bool} {R : α → β → Prop} {wi : TI} {g : TG} {tt : TT} {te : TE} {vs : List Nat} {Γ2 : α → Gam}
    (it : Wi fr Γ Θ wi fun its Θ1 => its = xs.map (iz r) ∧ Θ1 = Θ) (hl : xs.length ≤ 1000) (tg : ∀ x, TgR g vs (iz r x) (wipeG Γ vs) (Γ2 x)) (ht : ∀ x ∈ xs, ∀ c, Et fr (Γ2 x) (c :: Θ) tt (pr x))
    (he : ∀ x ∈ xs, pr x = true → ∀ c, We fr (Γ2 x) (c :: Θ) te fun q Θ' => Θ' = c :: Θ ∧ ∃ y, R x y ∧ q = iz s y) (k : ∀ ys a, Paired R (xs.filter pr) ys → K (zAt a) (cL a s ys :: Θ)) : We fr Γ Θ (tLc wi g tt te vs) K := fun σ F H ok env Q q => by
  refine it σ F H ok env _ fun its Θ1 ⟨e1, e2⟩ J F1 H1 s1 ok1 jok => ?_
  subst e1 e2
  intro D nD
  refine ⟨fun i m H' => m = xs.length - i ∧ i ≤ xs.length ∧ ∃ F2 ys, Same F1 F2 ∧ OkF fr (cL D s ys :: Θ1) F2 H' ∧ Paired R ((xs.take i).filter pr) ys, ⟨xs.length, by simp, Nat.zero_le _, F1, [], Same.refl _, ok1.mkOwn (c := cL D s []) nD rfl ⟨[], rfl, .nil⟩, .nil⟩, ?_⟩
  rintro i m H' ⟨rfl, hi, F2, ys, s2, ok2, py⟩
  obtain ⟨j1, j2⟩ := jok F2 H' s2 ok2.fh
  by_cases hlt : i < xs.length
  · have hx : xs[i]? = some xs[i] := List.getElem?_eq_getElem hlt
    generalize xs[i] = x at hx
    have hm := List.mem_of_getElem? hx
    obtain ⟨jg, jy⟩ := j1 i (iz r x) (by rw [List.getElem?_map, hx]; rfl)
    refine .inr ⟨jg, fun H3 => ∃ F3 ys, Same F1 F3 ∧ OkF fr (cL D s ys :: Θ1) F3 H3 ∧ Paired R ((xs.take (i + 1)).filter pr) ys, fun H3 p => ⟨xs.length - (i + 1), by omega, rfl, hlt, p⟩, fun v H3 y => ?_⟩
    obtain ⟨F3, e1, e2, e3, e4, e5⟩ := jy v H3 y
    have ok3 := ok2.grow e2 e1 e3 e4
    have s3 := s2.trans e1
    refine tg x (L2.wipe σ vs) F3 H3 v ok3.fh ((env.mono (s1.trans s3)).wipe vs) e5 _ fun σ2 env2 hw => ⟨by rw [hw, wipe_idem], ?_⟩
    have et : (xs.take (i + 1)).filter pr = (xs.take i).filter pr ++ if pr x = true then [x] else [] := by
      rw [take_more hx, List.filter_append, List.filter_cons]
      rfl
    refine ht x hm _ σ2 F3 H3 ok3 env2 _ fun b Θ2 ⟨e6, e7⟩ F4 H4 s4 ok4 => ?_
    subst e6 e7
    by_cases hb : pr x = true
    · rw [if_pos hb]
      rw [if_pos hb] at et
      refine he x hm hb _ σ2 F4 H4 ok4 (env2.mono s4) _ fun p Θ3 ⟨e8, y, hR, e9⟩ u F5 H5 s5 ok5 hp => ?_
      subst e8 e9
      obtain ⟨_, ⟨o, h2, acc, rfl, h4⟩, _⟩ := ok5.ce _ (List.mem_cons_self ..)
      have ok6 := ok5.mut (i := 0) (c := cL D s ys) (c' := cL D s (ys ++ [y])) (o := .lst (acc ++ [u])) rfl rfl rfl ⟨_, rfl, PySem.Paired.snoc h4 hp⟩
      refine ⟨acc, h2, ?_, F5, ys ++ [y], (s3.trans s4).trans s5, ok6, ?_⟩
      · rw [Paired.len h4, ← Paired.len py]
        have := List.length_filter_le pr (xs.take i)
        rw [List.length_take] at this
        exact small1000 (by omega)
      · rw [et]
        exact PySem.Paired.snoc py hR
    · rw [if_neg hb]
      rw [if_neg hb, List.append_nil] at et
      exact ⟨F4, ys, s3.trans s4, ok4, by rw [et]; exact py⟩
  · have e : i = xs.length := by omega
    subst e
    rw [List.take_length] at py
    exact .inl ⟨by rw [List.length_map] at j2; exact j2, q _ _ (k ys D py) _ F2 H' (s1.trans s2) ok2 rfl⟩
theorem we_lcO {α β : Type} {r : Rep α} {s : Rep β} {xs : List α} {pr : α → Bool} {f : α → β} {wi : TI} {g : TG} {tt : TT} {te : TE} {vs : List Nat} {Γ2 : α → Gam}
    (it : Wi fr Γ Θ wi fun its Θ1 => its = xs.map (iz r) ∧ Θ1 = Θ) (hl : xs.length ≤ 1000) (tg : ∀ x, TgR g vs (iz r x) (wipeG Γ vs) (Γ2 x)) (ht : ∀ x ∈ xs, ∀ c, Et fr (Γ2 x) (c :: Θ) tt (pr x))
    (he : ∀ x ∈ xs, pr x = true → ∀ c, Ev fr (Γ2 x) (c :: Θ) te (iz s (f x))) (k : ∀ a, K (zAt a) (cL a s ((xs.filter pr).map f) :: Θ)) : We fr Γ Θ (tLc wi g tt te vs) K :=
  we_lcRO (R := fun x y => y = f x) it hl tg ht (fun x hx hp c => (he x hx hp c).imp fun p Θ' ⟨e1, e2⟩ => ⟨e2, f x, rfl, e1⟩) fun ys a h => by
    rw [paired_map h]
    exact k a
theorem we_lcO0 {α β : Type} {r : Rep α} {s : Rep β} {xs : List α} {f : α → β} {wi : TI} {g : TG} {te : TE} {vs : List Nat} {Γ2 : α → Gam}
    (it : Wi fr Γ Θ wi fun its Θ1 => its = xs.map (iz r) ∧ Θ1 = Θ) (hl : xs.length ≤ 1000) (tg : ∀ x, TgR g vs (iz r x) (wipeG Γ vs) (Γ2 x))
    (he : ∀ x ∈ xs, ∀ c, Ev fr (Γ2 x) (c :: Θ) te (iz s (f x))) (k : ∀ a, K (zAt a) (cL a s (xs.map f) :: Θ)) : We fr Γ Θ (tLc wi g tYes te vs) K :=
  we_lcO (pr := fun _ => true) it hl tg (fun x hx c => wt_yes ⟨rfl, rfl⟩) (fun x hx _ c => he x hx c) fun a => by
    rw [List.filter_eq_self.mpr fun _ _ => rfl]
    exact k a
/-! ### cells lent to be read -/
/-- the value as it stood in F0 -/
def pin (F0 : Hp) (p : Vp) : Vp := ⟨fun _ v => p.p F0 v, fun _ h => h⟩
/-- the object at a, and what it is just now -/
def zBoth (a : Addr) (q : Vp) : Vp := ⟨fun F v => v = .ref a ∧ q.p F v, fun e ⟨h1, h2⟩ => ⟨h1, q.mono e h2⟩⟩
/-- Fc: F0 and the contents of the cells Θb -/
structure Lend (fr : Fr) (Θb : List Cel) (F0 Fc : Hp) : Prop where
  s : Same F0 Fc
  f0 : Same fr.F0 F0
  nw : ∀ a o, F0 a = some o → (∃ o', fr.F0 a = some o') ∨ fr.H0 a = none
  nc : ∀ a o, Fc a = some o → (∃ o', F0 a = some o') ∨ a ∈ Θb.map Cel.a
  nd : (Θb.map Cel.a).Nodup
  ce : ∀ c ∈ Θb, F0 c.a = none ∧ (∃ o, Fc c.a = some o ∧ c.φ F0 o) ∧ c.own = true ∧ fr.H0 c.a = none
def updL (F H : Hp) (as : List Addr) : Hp := fun a => if a ∈ as then H a else F a
theorem kn_lend {P : L2.St → Hp → Prop} {Θb : List Cel} (ho : ∀ c ∈ Θb, c.own = true) (k : ∀ F0 Fc, Lend fr Θb F0 Fc → Kn ⟨Fc, fr.H0, fr.B⟩ (Γ.map (Option.map (pin F0))) [] P) : Kn fr Γ Θb P := fun σ F H ok env => by
  have hs : Same F (updL F H (Θb.map Cel.a)) := fun a o h => by
    unfold updL
    split
    · rename_i q
      obtain ⟨c, hc, e⟩ := List.mem_map.mp q
      have := (ok.ce c hc).1
      rw [e, h] at this
      cases this
    · exact h
  have hl : Lend fr Θb F (updL F H (Θb.map Cel.a)) := by
    refine ⟨hs, ok.f0, ok.nw, fun a o h => ?_, ok.nd, fun c hc => ?_⟩
    · unfold updL at h
      split at h
      · rename_i q
        exact .inr q
      · exact .inl ⟨o, h⟩
    · obtain ⟨h1, ⟨o, h2, h3⟩, h4⟩ := ok.ce c hc
      rw [if_pos (ho c hc)] at h4
      refine ⟨h1, ⟨o, ?_, h3⟩, ho c hc, h4⟩
      unfold updL
      rw [if_pos (List.mem_map.mpr ⟨c, hc, rfl⟩)]
      exact h2
  refine k F _ hl σ _ H ⟨fun a o h => ?_, Same.refl _, fun a o h => .inl ⟨o, h⟩, ok.h0, ok.al, List.nodup_nil, fun c hc => by cases hc⟩ ?_
  · have h : (if a ∈ Θb.map Cel.a then H a else F a) = some o := h
    split at h
    · exact h
    · exact ok.fh a o h
  · have : ∀ {Γ : Gam} {σ : L2.St}, EnvF Γ σ F → EnvF (Γ.map (Option.map (pin F))) σ (updL F H (Θb.map Cel.a)) := by
      intro Γ σ h
      induction h with
      | nil => exact .nil
      | @cons e _ _ _ a _ ih =>
        refine .cons (fun p hp => ?_) ih
        cases e with
        | none => cases hp
        | some q =>
          cases hp
          exact a q rfl
    exact this env
theorem we_varP {Θb : List Cel} {F0 Fc : Hp} {B : List Addr} {H0 : Hp} {p : Vp} {i : Nat} (hl : Lend fr Θb F0 Fc) (h : Γ[i]? = some (some (pin F0 p))) (k : K p Θ) : We ⟨Fc, H0, B⟩ Γ Θ (tVar i) K := fun σ F H ok env Q q => by
  obtain ⟨v, h1, h2⟩ := env.get h
  exact ⟨v, h1, q.go k ok (p.mono (hl.s.trans ok.f0) h2)⟩
theorem we_varB {a : Addr} {p : Vp} {i : Nat} (h : Γ[i]? = some (some (zBoth a p))) (k : K p Θ) : We fr Γ Θ (tVar i) K := fun σ F H ok env Q q => by
  obtain ⟨v, h1, h2⟩ := env.get h
  exact ⟨v, h1, q.go k ok h2.2⟩
/-- a pinned name is what it was -/
theorem kn_unpin {Θb : List Cel} {F0 Fc : Hp} {B : List Addr} {H0 : Hp} {p q : Vp} {i : Nat} {P : L2.St → Hp → Prop} (hl : Lend fr Θb F0 Fc) (h : Γ[i]? = some (some (pin F0 p))) (hq : ∀ F v, Same Fc F → p.p F0 v → q.p F v) (k : Kn ⟨Fc, H0, B⟩ (Γ.set i (some q)) Θ P) : Kn ⟨Fc, H0, B⟩ Γ Θ P := fun σ F H ok env => by
  obtain ⟨v, h1, h2⟩ := env.get h
  have e : σ.set i (some v) = σ := by
    apply List.ext_getElem?
    intro m
    rw [List.getElem?_set]
    split
    · rename_i q
      subst q
      rw [if_pos (List.getElem?_eq_some_iff.mp h1).1, h1]
    · rfl
  have := env.set (i := i) (p := q) (hq F v ok.f0 h2)
  rw [e] at this
  exact k σ F H ok this
/-- what a name's entry becomes when the cells are taken back -/
def Back (F0 : Hp) (e e' : Option Vp) : Prop := e' = none ∨ (∃ p, e = some (pin F0 p) ∧ e' = some p) ∨ (∃ a q, e = some (zBoth a q) ∧ e' = some (zAt a)) ∨ ∃ p, e = some p ∧ e' = some p ∧ ∀ F F' v, p.p F v → p.p F' v
theorem kn_take {Θb : List Cel} {F0 Fc : Hp} {P : L2.St → Hp → Prop} {Γ1 Γ2 : Gam} (hl : Lend fr Θb F0 Fc) (hb : Paired (Back F0) Γ1 Γ2) (k : Kn fr Γ2 Θb P) : Kn ⟨Fc, fr.H0, fr.B⟩ Γ1 [] P := fun σ F H ok env => by
  have fs : Same F0 (fun a => if a ∈ Θb.map Cel.a then none else F a) := fun a o h => by
    dsimp only
    rw [if_neg]
    · exact ok.f0 _ _ (hl.s _ _ h)
    · intro q
      obtain ⟨c, hc, e⟩ := List.mem_map.mp q
      have := (hl.ce c hc).1
      rw [e, h] at this
      cases this
  refine k σ (fun a => if a ∈ Θb.map Cel.a then none else F a) H ⟨fun a o h => ?_, hl.f0.trans fs, fun a o h => ?_, ok.h0, ok.al, hl.nd, fun c hc => ?_⟩ ?_
  · have h : (if a ∈ Θb.map Cel.a then none else F a) = some o := h
    split at h
    · cases h
    · exact ok.fh a o h
  · have h : (if a ∈ Θb.map Cel.a then none else F a) = some o := h
    split at h
    · cases h
    · rename_i q
      rcases ok.nw a o h with ⟨o', h'⟩ | h'
      · rcases hl.nc a o' h' with ⟨o2, h2⟩ | h2
        · exact hl.nw a o2 h2
        · exact absurd h2 q
      · exact .inr h'
  · obtain ⟨h1, ⟨o, h2, h3⟩, h4, h5⟩ := hl.ce c hc
    refine ⟨if_pos (List.mem_map.mpr ⟨c, hc, rfl⟩), ⟨o, ok.fh _ _ (ok.f0 _ _ h2), c.mono fs h3⟩, by rw [if_pos h4]; exact h5⟩
  · have : ∀ {Γ1 Γ2 : Gam} {σ : L2.St}, Paired (Back F0) Γ1 Γ2 → EnvF Γ1 σ F → EnvF Γ2 σ (fun a => if a ∈ Θb.map Cel.a then none else F a) := by
      intro Γ1 Γ2 σ hb
      induction hb generalizing σ with
      | nil => intro h; cases h; exact .nil
      | cons a _ ih =>
        intro h
        cases h with
        | cons b c =>
          refine .cons (fun p hp => ?_) (ih c)
          rcases a with a | ⟨q, a1, a2⟩ | ⟨x, q, a1, a2⟩ | ⟨q, a1, a2, a3⟩
          · rw [a] at hp; cases hp
          · rw [a2] at hp
            cases hp
            obtain ⟨v, h1, h2⟩ := b _ a1
            exact ⟨v, h1, p.mono fs h2⟩
          · rw [a2] at hp
            cases hp
            obtain ⟨v, h1, h2⟩ := b _ a1
            exact ⟨v, h1, h2.1⟩
          · rw [a2] at hp
            cases hp
            obtain ⟨v, h1, h2⟩ := b _ a1
            exact ⟨v, h1, a3 _ _ _ h2⟩
    exact this hb env
/-- lists of lists, lent -/
theorem Lend.nest {α : Type} {r : Rep α} {G : Addr} {ga : List Addr} {ls : List (List α)} {Θx : List Cel} {F0 Fc : Hp} (hl : Lend fr (cL G zRef ga :: (cells r ga ls ++ Θx)) F0 Fc) (hn : ga.length = ls.length) : ∀ F v, Same Fc F → (zAt G).p F0 v → (zBoth G (iz (zL (zL r)) ls)).p F v := fun F v hs hv => by
  have hv : v = .ref G := hv
  subst hv
  refine ⟨rfl, ?_⟩
  obtain ⟨_, ⟨o, h2, vs, rfl, h3⟩, _⟩ := hl.ce _ (.head _)
  have key : ∀ {ga : List Addr} {ls : List (List α)}, ga.length = ls.length → (∀ c ∈ cells r ga ls, ∃ o, Fc c.a = some o ∧ c.φ F0 o) → ∀ {vs : List V}, PVs zRef F0 vs ga → PVs (zL r) F vs ls := by
    intro ga
    induction ga with
    | nil =>
      intro ls h1 h2 vs hp
      cases hp
      cases ls with
      | nil => exact .nil
      | cons => cases h1
    | cons a ga ih =>
      intro ls h1 h2 vs hp
      cases ls with
      | nil => cases h1
      | cons l ls =>
        cases hp with
        | cons x y =>
          have x : _ = V.ref a := x
          subst x
          obtain ⟨o, c1, us, rfl, c3⟩ := h2 (cL a r l) (.head _)
          exact .cons ⟨a, us, rfl, hs _ _ c1, Paired.imp2 (fun _ _ h => r.mono (hl.s.trans hs) h) c3⟩ (ih (by simpa using h1) (fun c hc => h2 c (.tail _ hc)) y)
  exact ⟨G, vs, rfl, hs _ _ h2, key hn (fun c hc => (hl.ce c (.tail _ (List.mem_append_left _ hc))).2.1) h3⟩
/-- a list, lent -/
theorem Lend.lst {α : Type} {r : Rep α} {G : Addr} {xs : List α} {Θx : List Cel} {F0 Fc : Hp} (hl : Lend fr (cL G r xs :: Θx) F0 Fc) : ∀ F v, Same Fc F → (zAt G).p F0 v → (zBoth G (iz (zL r) xs)).p F v := fun F v hs hv => by
  have hv : v = .ref G := hv
  subst hv
  obtain ⟨_, ⟨o, h2, vs, rfl, h3⟩, _⟩ := hl.ce _ (.head _)
  exact ⟨rfl, G, vs, rfl, hs _ _ h2, Paired.imp2 (fun _ _ h => r.mono (hl.s.trans hs) h) h3⟩
end
end L2

set_option Elab.async false
set_option linter.all false
set_option maxRecDepth 100000
set_option maxHeartbeats 4000000
/-! The ground: defs that draw from the law's box. -/
namespace L2
open PySem PySem.Spec PyProof.Rows PySem.HErr
abbrev PreB := List Vp → (Vp → Prop) → Prop
/-- the first argument is the box; what comes out is one of o -/
def preB (q : PreB) : PreC := fun ps Θ out err => ∃ b l qs o, ps = zAt b :: qs ∧ Θ = [cBox true b l] ∧ q qs o ∧ out = (fun p Θ' => o p ∧ Θ' = [cBox true b l]) ∧ err = fun _ _ => False
section
variable {fr : Fr} {Γ Γ' : Gam} {Θ Θ' Θn : List Cel} {F F' H H' : Hp} {K : Vp → List Cel → Prop} {Q : VK}
theorem perm_of_mem {c : Cel} (h : c ∈ Θ) : ∃ Θr, Θ.Perm ([c] ++ Θr) := by
  obtain ⟨s, t, rfl⟩ := List.append_of_mem h
  exact ⟨s ++ t, List.perm_middle⟩
theorem sps_B {q : PreB} {E : L2.St → XK} {b l : Addr} {qs : List Vp} {o : Vp → Prop} (hc : cBox true b l ∈ Θ) (hq : q qs o) (k : ∀ p, o p → K p Θ) : Sps fr Γ Θ (spC (preB q)) E (zAt b :: qs) K := fun σ F H vs ok env hps Q kq => by
  obtain ⟨Θr, pm⟩ := perm_of_mem hc
  have ok1 := ok.perm pm
  exact ⟨F, _, [cBox true b l], _, _, ok1.fh, ok1.cellsAt, hps, ⟨b, l, qs, o, rfl, rfl, hq, rfl, rfl⟩, fun p Θ' ⟨ho, hΘ⟩ v F' H' ef h => by
    subst hΘ
    exact kq p Θ (k p ho) v F' H' ef.ff ((ok1.eff ef).perm pm.symm) h, fun e Θ' he => he.elim⟩
def RetB (fr : Fr) (Q : VK) (b l : Addr) (o : Vp → Prop) : Prop := ∀ p, o p → ∀ Θ, cBox true b l ∈ Θ → Rt fr Θ Q p
theorem RetB.fine {fr' : Fr} {b l : Addr} {o : Vp → Prop} (h : RetB fr Q b l o) (le : FrLe fr fr') : RetB fr' Q b l o := fun p hp Θ hc => (h p hp Θ hc).fine le
end
section
variable {P : Program} {w : World} {K : PySem.W.Frag} {mg : Str → Option Value} {base : Heap} {x : Str} {st : Stmt} {N ps : List Str} {k : Nat} {q : PreB}
theorem Src.okB (F : Src K mg x st ps) (S : FnScope N ps (defScope st)) (len : ∀ qs o, q qs o → qs.length + 1 = ps.length)
    (hbody : ∀ (f : Addr) (cdv : Value) (A : Around) (outer : List Env) (s : Shared) (H : Hp) (E : XK) (b l : Addr) (qs : List Vp) (o : Vp → Prop), Room k (A.deeper (envOfC x (defScope st) s.heap.objs.size f cdv)) → q qs o →
      ∃ t, PSs (cxOf CX0 P w K mg base N x (defScope st) f cdv A outer s H E).nox (defBody st) t ∧ ∀ fr Q, RetB fr Q b l o → Kn fr (envOf N (zAt b :: qs)) [cBox true b l] (t { nx := fun _ H' => Q .non H', rt := Q })) : Def P w K mg base CX0 (k + 1) x ps (spC (preB q)) := by
  refine F.okC S (fun qs Θ out err ⟨b, l, qs', o, h1, h2, h3, _⟩ => ⟨by rw [h1]; exact len _ _ h3, fun c hc => by rw [h2] at hc; rw [List.mem_singleton.mp hc]; rfl⟩) (fun f cdv A outer s H E qs Θ out err hr hpre => ?_)
  obtain ⟨b, l, qs', o, rfl, rfl, h3, rfl, rfl⟩ := hpre
  obtain ⟨t, ht, hk⟩ := hbody f cdv A outer s H E b l qs' o hr h3
  refine ⟨t, ht, fun fr Q hret => hk fr Q fun p hp Θ hc => ?_⟩
  obtain ⟨Θr, pm⟩ := perm_of_mem hc
  exact hret p [cBox true b l] ⟨hp, rfl⟩ rfl Θ Θr pm
end
section
variable {P : Program} {w : World} {K : PySem.W.Frag} {mg : Str → Option Value} {base : Heap}
/-- new objects but the box are frozen -/
def newB (F H H' : Hp) (b : Addr) : Hp := fun a => if a = b then none else match H a with
  | none => H' a
  | some _ => F a
theorem newB_at {F H H' : Hp} {a b : Addr} {o : HO} (ne : a ≠ b) (n : H a = none) (h : H' a = some o) : newB F H H' b a = some o := by
  unfold newB
  rw [if_neg ne, n]
  exact h
theorem eff_box {F H H' : Hp} {b l : Addr} (fh : Same F H) (fb : F b = none) (hc : ∃ o, H b = some o ∧ (cBox true b l).φ F o) (bx : Bx b l H H') : Eff F H [cBox true b l] (newB F H H' b) H' [cBox true b l] := by
  obtain ⟨o, h1, ns', _, _, _, e0, e1, e2⟩ := hc
  have s1 : Same F (newB F H H' b) := fun a o h => by
    unfold newB
    rw [if_neg (fun e => by rw [e, fb] at h; cases h), fh a o h]
    exact h
  have s2 : Same (newB F H H' b) H' := fun a o h => by
    unfold newB at h
    split at h
    · cases h
    · rename_i ne
      cases q : H a with
      | none => rw [q] at h; exact h
      | some u => rw [q] at h; exact bx.sm a o ne (fh a o h)
  obtain ⟨ns, i, c, r, d1, d2, d3, d4⟩ := bx.b1.ex
  refine ⟨fun a o hn h => bx.sm a o (fun e => hn (List.mem_singleton.mpr e)) h, s1, s2, fun a o h => ?_, ⟨by simp, fun c' hc' => ?_⟩, rfl⟩
  · unfold newB at h
    split at h
    · cases h
    · cases q : H a with
      | none => exact .inr rfl
      | some u => rw [q] at h; exact .inl ⟨o, h⟩
  · rw [List.mem_singleton.mp hc']
    refine ⟨if_pos rfl, _, d1, ns', i, c, r, rfl, s1 _ _ e1, d3⟩
/-- _law_words(box, many) -/
def preWords : PreB := fun qs o => ∃ many : Nat, qs = [iz zI many] ∧ many ≤ 30 ∧ o = fun p => ∃ ws : List Str, ws.length = many ∧ ws.Nodup ∧ (∀ z ∈ ws, Wd z) ∧ p = iz (zL zS) ws
/-- _law_word(box) -/
def preWord : PreB := fun qs o => qs = [] ∧ o = fun p => ∃ z : Str, Wd z ∧ p = iz zS z
end
theorem okf_box1 {H : Hp} {b l : Addr} (h : Box H b l) : OkF ⟨minus H b, minus H b, []⟩ [cBox true b l] (minus H b) H := by
  obtain ⟨ns, i, c, r, h1, h2, h3, h4⟩ := h.ex
  have hm : ∀ a o, minus H b a = some o → H a = some o := fun a o h => by
    by_cases e : a = b
    · rw [e, minus_self] at h; cases h
    · rw [minus_ne e] at h; exact h
  refine ⟨fun a o h => hm a o h, Same.refl _, fun a o h => .inl ⟨o, h⟩, fun a o _ h => hm a o h, fun a o h => ⟨o, hm a o h⟩, by simp, fun c' hc => ?_⟩
  rw [List.mem_singleton.mp hc]
  exact ⟨minus_self, ⟨_, h1, ns, i, c, r, rfl, by rw [minus_ne h4]; exact h2, h3⟩, minus_self⟩
theorem enter1 {H : Hp} {b l : Addr} {σ : L2.St} {Γ : Gam} {P : L2.St → Hp → Prop} (h : Box H b l) (e : EnvF Γ σ (minus H b)) (k : ∀ fr, Kn fr Γ [cBox true b l] P) : P σ H := k _ σ _ H (okf_box1 h) e
/-- a loop over a thing that is found by its own way -/
theorem kn_forN {fr : Fr} {Γ : Gam} {Θ : List Cel} {α : Type} {r : Rep α} {A : List α → List Cel → Prop} {wi : TI} {g : TG} {tb : TS} {D : Ends} (it : Wi fr Γ Θ wi fun its Θ1 => ∃ xs : List α, its = xs.map (iz r) ∧ A xs Θ1)
    (k : ∀ xs Θ1, A xs Θ1 → ∀ fr' wi', FrLe fr fr' → Wi fr' Γ Θ1 wi' (fun its Θ2 => its = xs.map (iz r) ∧ Θ2 = Θ1) → Kn fr' Γ Θ1 (tFor wi' g tb D)) : Kn fr Γ Θ (tFor wi g tb D) := fun σ F H ok env =>
  it σ F H ok env _ fun its Θ1 ⟨xs, e, hA⟩ J F1 H1 s1 ok1 jok => by
    subst e
    have up : OkF ⟨F1, fr.H0, fr.B⟩ Θ1 F1 H1 := ⟨ok1.fh, Same.refl _, fun a o h => .inl ⟨o, h⟩, ok1.h0, ok1.al, ok1.nd, ok1.ce⟩
    exact k xs Θ1 hA ⟨F1, fr.H0, fr.B⟩ (fun _ H R => R J H) ok1.fine (fun σ2 F2 H2 ok2 env2 R q => q _ Θ1 ⟨rfl, rfl⟩ J F2 H2 (Same.refl _) ok2 fun F3 H3 s3 fh3 => jok F3 H3 (ok2.f0.trans s3) fh3) σ F1 H1 up (env.mono s1)
/-- [[] for x in xs]: lists of one's own -/
theorem we_lcNil {fr : Fr} {Γ : Gam} {Θ : List Cel} {K : Vp → List Cel → Prop} {α β : Type} {r : Rep α} (s : Rep β) {xs : List α} {wi : TI} {g : TG} {vs : List Nat} {Γ2 : α → Gam}
    (it : Wi fr Γ Θ wi fun its Θ1 => its = xs.map (iz r) ∧ Θ1 = Θ) (hl : xs.length ≤ 1000) (tg : ∀ x, TgR g vs (iz r x) (wipeG Γ vs) (Γ2 x))
    (k : ∀ a as, as.length = xs.length → K (zAt a) (cL a zRef as :: (cells s as (List.replicate xs.length []) ++ Θ))) : We fr Γ Θ (tLc wi g tYes (tLst tNil) vs) K := fun σ F H ok env Q q => by
  refine it σ F H ok env _ fun its Θ1 ⟨e1, e2⟩ J F1 H1 s1 ok1 jok => ?_
  subst e1 e2
  intro D nD
  refine ⟨fun i m H' => m = xs.length - i ∧ i ≤ xs.length ∧ ∃ F2 as, Same F1 F2 ∧ as.length = i ∧ OkF fr (cL D zRef as :: (cells s as (List.replicate i []) ++ Θ1)) F2 H', ⟨xs.length, by simp, Nat.zero_le _, F1, [], Same.refl _, rfl, ok1.mkOwn (c := cL D zRef []) nD rfl ⟨[], rfl, .nil⟩⟩, ?_⟩
  rintro i m H' ⟨rfl, hi, F2, as, s2, la, ok2⟩
  obtain ⟨j1, j2⟩ := jok F2 H' s2 ok2.fh
  by_cases hlt : i < xs.length
  · have hx : xs[i]? = some xs[i] := List.getElem?_eq_getElem hlt
    generalize xs[i] = x at hx
    obtain ⟨jg, jy⟩ := j1 i (iz r x) (by rw [List.getElem?_map, hx]; rfl)
    refine .inr ⟨jg, fun H3 => ∃ F3 as, Same F1 F3 ∧ as.length = i + 1 ∧ OkF fr (cL D zRef as :: (cells s as (List.replicate (i + 1) []) ++ Θ1)) F3 H3, fun H3 p => ⟨xs.length - (i + 1), by omega, rfl, hlt, p⟩, fun v H3 y => ?_⟩
    obtain ⟨F3, e1, e2, e3, e4, e5⟩ := jy v H3 y
    have ok3 := ok2.grow e2 e1 e3 e4
    have s3 := s2.trans e1
    refine tg x (L2.wipe σ vs) F3 H3 v ok3.fh ((env.mono (s1.trans s3)).wipe vs) e5 _ fun σ2 env2 hw => ⟨by rw [hw, wipe_idem], ?_⟩
    refine yes_if ?_
    refine ⟨Nat.zero_le _, fun c nc => ?_⟩
    have ok4 := ok3.mkOwn (c := cL c s []) (o := .lst []) nc rfl ⟨[], rfl, .nil⟩
    obtain ⟨_, ⟨o, h2, acc, rfl, h4⟩, _⟩ := ok4.ce (cL D zRef as) (.tail _ (.head _))
    have ok5 := ok4.mut (i := 1) (c := cL D zRef as) (c' := cL D zRef (as ++ [c])) (o := .lst (acc ++ [.ref c])) rfl rfl rfl ⟨_, rfl, PySem.Paired.snoc h4 (show zRef.p F3 (.ref c) c from rfl)⟩
    refine ⟨acc, h2, by rw [Paired.len h4, la]; exact small1000 (by omega), F3, as ++ [c], s3, by rw [List.length_append, la]; rfl, ok5.perm ?_⟩
    rw [List.replicate_succ', cells_snoc (by rw [la, List.length_replicate]), List.append_assoc]
    exact (List.Perm.swap _ _ _).trans (.cons _ List.perm_middle.symm)
  · have e : i = xs.length := by omega
    subst e
    exact .inl ⟨by rw [List.length_map] at j2; exact j2, q _ _ (k D as la) _ F2 H' (s1.trans s2) ok2 rfl⟩
/-- a list of two things -/
def zLp {α β : Type} (r : Rep α) (s : Rep β) : Rep (α × β) := ⟨fun F v x => ∃ a u w, v = .ref a ∧ F a = some (.lst [u, w]) ∧ r.p F u x.1 ∧ s.p F w x.2, fun e ⟨a, u, w, h1, h2, h3, h4⟩ => ⟨a, u, w, h1, e _ _ h2, r.mono e h3, s.mono e h4⟩⟩
section
variable {fr : Fr} {Γ : Gam} {Θ : List Cel} {K : Vp → List Cel → Prop}
theorem we_lstp {α β : Type} {r : Rep α} {s : Rep β} {t : TA} (w : Wa fr Γ Θ t fun ps Θ1 => ∃ x y, ps = [iz r x, iz s y] ∧ K (iz (zLp r s) (x, y)) Θ1) : We fr Γ Θ (tLst t) K := fun σ F H ok env Q q =>
  w σ F H ok env _ fun ps Θ1 ⟨x, y, e, k⟩ vs F1 H1 s1 ok1 hps => ⟨small_len hps (by rw [e]; simp), fun a na => by
    subst e
    have hps := ps_mono (ok1.sameF (o := .lst vs) na) hps
    cases hps with
    | cons h1 hp => cases hp with
      | cons h2 hp => cases hp with
        | nil => exact (q.mono s1).new k ok1 na ⟨a, _, _, rfl, upd_same, h1, h2⟩⟩
theorem tgLp {Kf : PySem.W.Frag} {i j : Nat} {α β : Type} {r : Rep α} {s : Rep β} {x : α × β} (hij : i ≠ j) (g : TG) (hg : ∀ v σ H Q, (∃ a xs, v = .ref a ∧ SqL Kf H a xs ∧ xs.length = 2 ∧ gCons (gName i) (gCons (gName j) gNil) xs σ H Q) → g v σ H Q) : TgR g [i, j] (iz (zLp r s) x) Γ ((Γ.set i (some (iz r x.1))).set j (some (iz s x.2))) := fun σ F H v fh env hp Q q => by
  obtain ⟨a, u, w, rfl, h2, h4, h5⟩ := hp
  refine hg _ _ _ _ ⟨a, _, rfl, SqL.of (fh _ _ h2), rfl, _, _, rfl, _, _, rfl, rfl, q _ ((env.set (p := iz r x.1) h4).set (p := iz s x.2) h5) ?_⟩
  show ((((σ.set i (some _)).set j (some _)).set j none).set i none) = (σ.set j none).set i none
  rw [List.set_set, set_comm' hij, List.set_set]
end
theorem cutX_drop {α : Type} (xs : List α) (n : Nat) : cutX xs (some (n : Int)) none = xs.drop n := by
  unfold cutX
  rw [HT.sIx_none, HT.sIx_nat]
  by_cases h : n ≤ xs.length
  · rw [Nat.min_eq_left h]
    exact List.take_of_length_le (by rw [List.length_drop]; exact Nat.le_refl _)
  · rw [Nat.min_eq_right (by omega), List.drop_length, List.drop_of_length_le (by omega), List.take_nil]
theorem cutX_take {α : Type} (xs : List α) (n : Nat) : cutX xs none (some (n : Int)) = xs.take n := by
  unfold cutX
  rw [HT.sIx_none, HT.sIx_nat]
  show List.take (min n xs.length - 0) (List.drop 0 xs) = _
  rw [List.drop_zero, Nat.sub_zero, Nat.min_comm]
  by_cases h : n ≤ xs.length
  · rw [Nat.min_eq_right h]
  · rw [Nat.min_eq_left (by omega), List.take_length, List.take_of_length_le (by omega)]
theorem cb_listO {fr : Fr} {Θ : List Cel} {K : Vp → List Cel → Prop} {Kf : PySem.W.Frag} {α : Type} {r : Rep α} {xs : List α} {p : Vp} (h : SeqP fr Θ p r xs) (k : ∀ a, K (zAt a) (cL a r xs :: Θ)) : Cbs fr Θ (rListQ Kf) [p] K := fun F H vs ok hps Q q => by
  cases hps with
  | cons h1 hp => cases hp with
    | nil =>
      obtain ⟨a, us, rfl, h2, h3⟩ := h F H _ ok h1
      exact ⟨a, us, rfl, sq_or h2, fun l nl => q _ _ (k l) _ F _ (Same.refl F) (ok.mkOwn (c := cL l r xs) nl rfl ⟨us, rfl, h3⟩) rfl⟩
end L2

set_option Elab.async false
set_option linter.all false
set_option maxRecDepth 100000
set_option maxHeartbeats 4000000
/-! The ground: list.index, str.join, list * int, None or a thing. -/
namespace L2
open PySem PySem.Spec PyProof.Rows PySem.HErr
section
variable {fr : Fr} {Γ Γ' : Gam} {Θ : List Cel} {F F' H H' : Hp} {K : Vp → List Cel → Prop} {Q : VK}
theorem tyl_L {α : Type} {r : Rep α} {xs : List α} {Kf : PySem.W.Frag} : ∀ F H v, OkF fr Θ F H → (iz (zL r) xs).p F v → tyV Kf "list" v H := fun F H v ok ⟨a, vs, h1, h2, _⟩ => by
  subst h1
  exact .inl ⟨rfl, vs, SqL.of (ok.fh _ _ h2)⟩
theorem eqV_str {a b : Str} : eqV (.str a) (.str b) = decide (a = b) := by
  unfold eqV
  rfl
theorem mts_index {Kf : PySem.W.Frag} {xs : List Str} {x : Str} (hx : x ∈ xs) (k : K (iz zI (xs.idxOf x : Nat)) Θ) : Mts fr Θ (rIndex Kf) (iz (zL zS) xs) [iz zS x] K := fun F H v vs ok hv hps Q q => by
  obtain ⟨a, us, rfl, h2, h3⟩ := hv
  obtain ⟨rfl, _⟩ := pvs_S h3
  cases hps with
  | cons h1 hp => cases hp with
    | nil =>
      obtain ⟨rfl, ha⟩ := h1
      have hl : xs.idxOf x < xs.length := List.idxOf_lt_length_iff.mpr hx
      refine ⟨a, _, _, xs.idxOf x, .str x, rfl, rfl, SqL.of (ok.fh _ _ h2), rfl, ?_, ?_, ?_, fun m z hm hz => ?_, q.go k ok rfl⟩
      · rw [List.all_map, List.all_eq_true]
        intro y hy
        rfl
      · rw [List.getElem?_map, List.getElem?_eq_getElem hl, List.getElem_idxOf]
        rfl
      · rw [eqV_str]
        exact decide_eq_true rfl
      · rw [List.getElem?_map, List.getElem?_eq_getElem (by omega)] at hz
        cases hz
        rw [eqV_str]
        have := List.not_of_lt_findIdx hm
        exact decide_eq_false (by simpa using this)
theorem mts_join {Kf : PySem.W.Frag} {xs : List Str} {x : Str} (hs : (xs.map (·.length)).sum + xs.length * x.length ≤ 16777216) (k : K (iz zS (Txt.join x xs)) Θ) (ha : Asc (Txt.join x xs)) : Mts fr Θ (fun x xs H Q => ∃ a p, ∃ ys : List Str, x = .str a ∧ xs = [.ref p] ∧ (SqL Kf H p (ys.map V.str) ∨ SqT Kf H p (ys.map V.str)) ∧
    (ys.map (·.length)).sum + ys.length * a.length ≤ 16777216 ∧ Q (.str (Txt.join a ys)) H) (iz zS x) [iz (zL zS) xs] K := fun F H v vs ok hv hps Q q => by
  obtain ⟨rfl, _⟩ := hv
  cases hps with
  | cons h1 hp => cases hp with
    | nil =>
      obtain ⟨a, us, rfl, h2, h3⟩ := h1
      obtain ⟨rfl, _⟩ := pvs_S h3
      exact ⟨x, a, xs, rfl, rfl, .inl (SqL.of (ok.fh _ _ h2)), hs, q.go k ok ⟨rfl, ha⟩⟩
theorem tyl_S {x : Str} {Kf : PySem.W.Frag} : ∀ F H v, OkF fr Θ F H → (iz zS x).p F v → tyV Kf "str" v H := fun F H v ok ⟨h1, _⟩ => by
  subst h1
  exact rfl
theorem flat_pvs {α : Type} {r : Rep α} {vs : List V} {xs : List α} (h : PVs r F vs xs) : ∀ n : Nat, PVs r F (List.replicate n vs).flatten (List.replicate n xs).flatten
  | 0 => .nil
  | n + 1 => by
    rw [List.replicate_succ, List.replicate_succ, List.flatten_cons, List.flatten_cons]
    exact Paired.app h (flat_pvs h n)
theorem ops_rep {α : Type} {r : Rep α} {xs : List α} {n : Int} (h0 : -(2 ^ 63) ≤ n) (h1 : n < 2 ^ 63) (hl : xs.length * n.toNat ≤ sizeLine) (k : K (iz (zL r) (List.replicate n.toNat xs).flatten) Θ) : Ops fr Θ rRep (iz (zL r) xs) (iz zI n) K := fun F H v w ok hv hw Q q => by
  obtain ⟨a, vs, rfl, h2, h3⟩ := hv
  have hw : w = .int n := hw
  subst hw
  exact ⟨a, n, vs, rfl, rfl, ok.fh _ _ h2, h0, h1, by rw [Paired.len h3]; exact hl, fun l nl => q.new k ok nl ⟨l, _, rfl, upd_same, Paired.imp2 (fun _ _ h => r.mono (ok.sameF nl) h) (flat_pvs h3 _)⟩⟩
theorem flat_one {α : Type} (x : α) : ∀ n : Nat, (List.replicate n [x]).flatten = List.replicate n x
  | 0 => rfl
  | n + 1 => by rw [List.replicate_succ, List.flatten_cons, flat_one x n]; rfl
/-! None or a thing -/
def optP {α : Type} (r : Rep α) : Option α → Vp
  | none => zNon
  | some x => iz r x
class NotNon {α : Type} (r : Rep α) : Prop where
  nn : ∀ F v x, r.p F v x → v ≠ .non
instance {α : Type} {r : Rep α} : NotNon (zL r) := ⟨fun F v x ⟨a, vs, h, _⟩ => by rw [h]; exact fun q => by cases q⟩
instance {α : Type} {r : Rep α} : NotNon (zT r) := ⟨fun F v x ⟨a, vs, h, _⟩ => by rw [h]; exact fun q => by cases q⟩
instance {α β : Type} {r : Rep α} {s : Rep β} : NotNon (z2 r s) := ⟨fun F v x ⟨a, u, w, h, _⟩ => by rw [h]; exact fun q => by cases q⟩
instance {α β γ : Type} {r : Rep α} {s : Rep β} {t : Rep γ} : NotNon (z3 r s t) := ⟨fun F v x ⟨a, u, w, z, h, _⟩ => by rw [h]; exact fun q => by cases q⟩
instance : NotNon zI := ⟨fun F v x h => by rw [show v = .int x from h]; exact fun q => by cases q⟩
instance : NotNon zS := ⟨fun F v x h => by rw [h.1]; exact fun q => by cases q⟩
theorem ops_isO {α : Type} {r : Rep α} [NotNon r] {o : Option α} (k : K (iz zB o.isNone) Θ) : Ops fr Θ (fun x y H Q => y = .non ∧ Q (.bl (decide (x = .non))) H) (optP r o) zNon K := fun F H v w ok hv hw Q q => by
  refine ⟨hw, q.go k ok ?_⟩
  show V.bl _ = V.bl _
  cases o with
  | none => rw [show v = .non from hv]; rfl
  | some x => rw [decide_eq_false (NotNon.nn F v x hv)]; rfl
theorem ops_notO {α : Type} {r : Rep α} [NotNon r] {o : Option α} (k : K (iz zB o.isSome) Θ) : Ops fr Θ (fun x y H Q => y = .non ∧ Q (.bl (!decide (x = .non))) H) (optP r o) zNon K := fun F H v w ok hv hw Q q => by
  refine ⟨hw, q.go k ok ?_⟩
  show V.bl _ = V.bl _
  cases o with
  | none => rw [show v = .non from hv]; rfl
  | some x => rw [decide_eq_false (NotNon.nn F v x hv)]; rfl
theorem ops_isX {α : Type} {r : Rep α} [NotNon r] {x : α} (k : K (iz zB false) Θ) : Ops fr Θ (fun x y H Q => y = .non ∧ Q (.bl (decide (x = .non))) H) (iz r x) zNon K := ops_isO (o := some x) k
theorem ops_notX {α : Type} {r : Rep α} [NotNon r] {x : α} (k : K (iz zB true) Θ) : Ops fr Θ (fun x y H Q => y = .non ∧ Q (.bl (!decide (x = .non))) H) (iz r x) zNon K := ops_notO (o := some x) k
theorem ops_isN (k : K (iz zB true) Θ) : Ops fr Θ (fun x y H Q => y = .non ∧ Q (.bl (decide (x = .non))) H) zNon zNon K := ops_isO (r := zI) (o := none) k
theorem ops_notN (k : K (iz zB false) Θ) : Ops fr Θ (fun x y H Q => y = .non ∧ Q (.bl (!decide (x = .non))) H) zNon zNon K := ops_notO (r := zI) (o := none) k
end
section
variable {X : Cx} {K : PySem.W.Frag} {o e : Expr} {es : List Expr} {to : TE} {t : TA} {name : Str} {apos cpos : Pos} {T id : String} {r : V → List V → Hp → VK → Prop}
theorem kpe_bm (pa : PlainAttrs T) (slot : Slot T name id) (hty : typeOf (.builtin id) = pure (.type "method_descriptor")) (hm : MtR X id r) (ho : PE X o to) (ha : PA X (e :: es) t)
    (hbase : attributeBase o name X.env (eval o X.env) = eval o X.env := by rfl)
    (hfew : ((backTo cpos (starEach (e :: es) X.env)).all (fun x => !x.1) && (backToKw cpos (keywordEach [] X.env)).all (fun x => x.1.isSome)
      && decide ((e :: es).length + ([] : List Keyword).length + (if ([] : List Keyword).isEmpty then 0 else 1) < 30)) = true := by rfl)
    (hline : (apos.endLine == cpos.line) = true := by rfl) (hs : starEach (e :: es) X.env = (false, eval e X.env) :: starEach es X.env := by rfl) (hplain : (backTo cpos (starEach es X.env)).any (·.1) = false := by rfl) (h : X.K = K := by rfl) :
    PE X (.Call (.Attribute o name apos) (e :: es) [] cpos) (tBM K T r to t) := h ▸ pe_bm pa slot hty hm ho ha hbase hfew hline hs hplain
theorem kmt_index (h : X.K = K := by rfl) : MtR X "list.index" (rIndex K) := h ▸ mt_index
end
end L2

set_option Elab.async false
set_option linter.all false
set_option maxRecDepth 100000
set_option maxHeartbeats 4000000
/-! Special methods of own classes: in, len, brackets, ==. -/
namespace L2
open PySem PySem.Spec PyProof.Rows PySem.HErr
section
variable {P : Program} {w : World} {A : Around} {E : Value → Shared → Prop} {s : Shared} {K : PySem.W.Frag} {a C f dx : Addr} {mA : Str → Option Value} {name : Str} {args : List Value}
theorem bindS (X : K.In s.heap) (hm : Meth K C name f) {self : Value} {Q : Value × List Value → Shared → Prop} (h : Q (.ref f, [self]) s) : wpAny (model P w) A (bindSpecial (.ref f) self) Q E s :=
  (PySem.W.bind_fn X self (beq_iff_eq.mp hm.fn)).here h
theorem special_own {Q : Option Value → Shared → Prop} (X : K.In s.heap) (I : ObjM s.heap a dx C mA) (hm : Meth K C name f)
    (hc : wpAny (model P w) A (call (.ref f) (.ref a :: args)) (fun v s' => Q (some v) s') E s) : wpAny (model P w) A (callSpecial? (.ref a) name args) Q E s := by
  obtain ⟨od, J, _⟩ := I.look
  unfold callSpecial? specialOf
  refine wpAny_bind (wpAny_bind (J.type.here ((PySem.W.looks_findIn X hm.at_).here ?_)))
  refine wpAny_holding ?_
  refine wpAny_bind (bindS X hm ?_)
  exact wpAny_bind (wpAny_mono hc (fun v s' h => wpAny_pure h) fun _ _ z => z)
theorem contains_own {x : Value} {Q : Bool → Shared → Prop} (X : K.In s.heap) (I : ObjM s.heap a dx C mA) (hm : Meth K C "__contains__" f)
    (hc : wpAny (model P w) A (call (.ref f) [.ref a, x]) (fun v s' => ∃ b, v = .bool b ∧ Q b s') E s) : wpAny (model P w) A (contains (.ref a) x) Q E s := by
  obtain ⟨od, J, _⟩ := I.look
  unfold contains
  refine wpAny_holding ?_
  rw [stdlibNamesSay?_ref]
  dsimp only
  unfold specialOf
  refine wpAny_bind (wpAny_bind (J.type.here ((PySem.W.looks_findIn X hm.at_).here ?_)))
  rw [if_neg (by simp)]
  unfold callSpecialUnlessNone? specialOf
  refine wpAny_bind (wpAny_bind (wpAny_bind (J.type.here ((PySem.W.looks_findIn X hm.at_).here ?_))))
  refine wpAny_holding ?_
  refine wpAny_bind (bindS X hm ?_)
  dsimp only
  rw [if_neg (by simp)]
  refine wpAny_bind (wpAny_mono hc (fun v s' ⟨b, e, h⟩ => wpAny_pure ?_) fun _ _ z => z)
  subst e
  exact wpAny_pure h
end
/-- y in p, p an instance of the class at C whose __contains__ says sp -/
def tInO (C : Addr) (sp : Sp) (E : St → XK) (ty tp : TE) : TE := fun σ H Q => ty σ H fun y H1 => tp σ H1 fun x H2 => ∃ a dx fs, x = .ref a ∧ H2 a = some (.ins C dx fs) ∧ sp [.ref a, y] H2 (fun v H3 => ∃ b, v = .bl b ∧ Q (.bl b) H3) (E σ)
def tNotInO (C : Addr) (sp : Sp) (E : St → XK) (ty tp : TE) : TE := fun σ H Q => ty σ H fun y H1 => tp σ H1 fun x H2 => ∃ a dx fs, x = .ref a ∧ H2 a = some (.ins C dx fs) ∧ sp [.ref a, y] H2 (fun v H3 => ∃ b, v = .bl b ∧ Q (.bl (!b)) H3) (E σ)
section
variable {X : Cx} {CX : CXT} {k : Nat} {C : Addr} {ps : List Str} {sp : Sp} {E : St → XK} {i o : Expr} {ty tp : TE}
theorem pc_inO (D : DefM X.prog X.w X.K X.mg X.base CX k C "__contains__" ps sp) (hr : Room k X.A) (hx : ∀ σ, PassesAt CX X σ (E σ)) (hi : PE X i ty) (ho : PE X o tp) : PC X .In i o (tInO C sp E ty tp) := by
  obtain ⟨f, fd, hm, hb, F⟩ := D.ex
  refine ⟨fun pins s σ H Q I h => ?_⟩
  refine thn (hi.run pins s σ H _ I h) fun iv s1 ⟨y, H1, I1, ry, q1⟩ => thn (ho.run pins s1 σ H1 _ I1 q1) fun u s2 ⟨x, H2, I2, rx, a, dx, fs, ex, ea, q2⟩ => ?_
  subst ex
  obtain rfl : u = Value.ref a := rx
  obtain ⟨mA, O, _⟩ := ins_get I2.hok ea
  unfold compareOp
  refine wpAny_bind (contains_own I2.kIn O hm (wpAny_mono (run_fnS (us := [.ref a, iv]) (vs := [.ref a, y]) F hr hb (hx σ) I2 (.cons rfl (.cons ry .nil)) q2) (fun v s3 ⟨z, H3, I3, rz, b, e, q3⟩ => ?_) fun _ _ z => z))
  subst e
  cases rz
  exact ⟨b, rfl, wpAny_pure ⟨.bl b, H3, I3, rfl, q3⟩⟩
theorem pc_notinO (D : DefM X.prog X.w X.K X.mg X.base CX k C "__contains__" ps sp) (hr : Room k X.A) (hx : ∀ σ, PassesAt CX X σ (E σ)) (hi : PE X i ty) (ho : PE X o tp) : PC X .NotIn i o (tNotInO C sp E ty tp) := by
  obtain ⟨f, fd, hm, hb, F⟩ := D.ex
  refine ⟨fun pins s σ H Q I h => ?_⟩
  refine thn (hi.run pins s σ H _ I h) fun iv s1 ⟨y, H1, I1, ry, q1⟩ => thn (ho.run pins s1 σ H1 _ I1 q1) fun u s2 ⟨x, H2, I2, rx, a, dx, fs, ex, ea, q2⟩ => ?_
  subst ex
  obtain rfl : u = Value.ref a := rx
  obtain ⟨mA, O, _⟩ := ins_get I2.hok ea
  unfold compareOp
  refine wpAny_bind (contains_own I2.kIn O hm (wpAny_mono (run_fnS (us := [.ref a, iv]) (vs := [.ref a, y]) F hr hb (hx σ) I2 (.cons rfl (.cons ry .nil)) q2) (fun v s3 ⟨z, H3, I3, rz, b, e, q3⟩ => ?_) fun _ _ z => z))
  subst e
  cases rz
  exact ⟨b, rfl, wpAny_pure ⟨.bl (!b), H3, I3, rfl, q3⟩⟩
end
section
variable {P : Program} {w : World} {A : Around} {E : Value → Shared → Prop} {s : Shared} {K : PySem.W.Frag} {a C f dx : Addr} {mA : Str → Option Value} {name : Str} {args : List Value}
theorem getItem_own {x : Value} {Q : Value → Shared → Prop} (X : K.In s.heap) (I : ObjM s.heap a dx C mA) (hm : Meth K C "__getitem__" f) (nd : PySem.W.mroIn K C (.type "collections.deque") = some false)
    (hc : wpAny (model P w) A (call (.ref f) [.ref a, x]) Q E s) : wpAny (model P w) A (getItem (.ref a) x) Q E s := by
  obtain ⟨od, J, _⟩ := I.look
  have dq : PySem.W.Looks (model P w) s.heap (seqItemTypes.anyM fun n => isSubtype (.ref C) (.type n)) false := by
    show PySem.W.Looks (model P w) s.heap (isSubtype (.ref C) (.type "collections.deque") >>= fun b => _) false
    exact (PySem.W.looks_mroIn X nd).andThen .now
  unfold getItem
  refine wpAny_holding ?_
  unfold sequenceKey
  refine wpAny_bind (wpAny_bind (J.type.here ?_))
  dsimp only
  refine wpAny_bind (dq.here ?_)
  refine wpAny_pure ?_
  exact wpAny_bind (special_own X I hm (wpAny_mono hc (fun v s' h => wpAny_pure h) fun _ _ z => z))
theorem len_ownK {Q : Value → Shared → Prop} (X : K.In s.heap) (I : ObjM s.heap a dx C mA) (hm : Meth K C "__len__" f)
    (hcall : wpAny (model P w) A.in1 (call (.ref f) [.ref a]) (fun r s' => ∃ n u, r = .int n u ∧ 0 ≤ n ∧ n < 2 ^ 63 ∧ Q (.int n s'.toks) { s' with toks := s'.toks + 1 }) E s) :
    wpAny (model P w) A (call (.builtin "len") [.ref a]) Q E s := by
  refine Calls.call_function_entry kind_len plain_len entry_len (args_len1 _) ?_
  unfold Builtin.«len»
  refine wpAny_bind (wpAny_pure ?_)
  refine wpAny_bind (m := callSpecial? (.ref a) (Str.ofString "__len__")) (special_own X I hm (wpAny_mono hcall (fun r s' hr => ?_) fun _ _ y => y))
  obtain ⟨n, u, rfl, h0, h1, hq⟩ := hr
  refine wpAny_bind (wpAny_holding (wpAny_pure ?_))
  refine wpAny_bind (wpAny_letGo ?_)
  show wpAny _ _ (if n < 0 then _ else _) _ _ _
  rw [if_neg (by omega)]
  show wpAny _ _ (if n ≥ 2 ^ 63 then _ else _) _ _ _
  rw [if_neg (by omega)]
  exact wpAny_bind (wpAny_mkInt (wpAny_pure ⟨_, rfl, hq⟩))
end
/-- o[i], o an instance of the class at C whose __getitem__ says sp -/
def tIxO (C : Addr) (sp : Sp) (E : St → XK) (tp ty : TE) : TE := fun σ H Q => tp σ H fun x H1 => ty σ H1 fun y H2 => ∃ a dx fs, x = .ref a ∧ H2 a = some (.ins C dx fs) ∧ sp [.ref a, y] H2 Q (E σ)
section
variable {X : Cx} {CX : CXT} {k : Nat} {C : Addr} {ps : List Str} {sp : Sp} {E : St → XK} {i o : Expr} {ty tp : TE} {x : Str} {p pos : Pos}
theorem run_fnS1 {pins : List (Addr × Obj)} {σ : St} {H : Hp} {s : Shared} {Q : VK} {f : Addr} {fd : FuncData} {us : List Value} {vs : List V} (F : FnOk X.prog X.w X.K X.mg X.base CX k f fd ps sp) (hr : Room (k + 1) X.A) (hb : Binds X.K fd ps []) (hx : PassesAt CX X σ (E σ))
    (I : Inv X pins σ H s) (r : Vals vs us) (h : sp vs H Q (E σ)) : wpAny (model X.prog X.w) X.A.in1 (call (.ref f) us) (EP X pins σ Q) X.xe s := by
  have hl : us.length = ps.length := by rw [← r.length]; exact F.len _ _ _ _ h
  have b := hb s us I.kIn (by rw [List.append_nil]; exact hl)
  rw [List.append_nil] at b
  refine wpAny_call (codeAny_mono (F.run X.A.in1 X.stack s H ⟨us, []⟩ us vs Q (E σ) hr.in1 I.env0.in1 b r h) fun r s' hq => ?_)
  cases r with
  | error e => exact hx pins H s e s' I hq
  | ok fl =>
    cases fl with
    | ret u => exact I.after hq
    | next => exact False.elim hq
    | brk => exact False.elim hq
    | cont => exact False.elim hq
end
def rLenO (C : Addr) (sp : Sp) (E : XK) : List V → Hp → VK → Prop := fun xs H Q => ∃ a dx fs, xs = [.ref a] ∧ H a = some (.ins C dx fs) ∧ sp [.ref a] H (fun v H2 => ∃ n : Int, v = .int n ∧ 0 ≤ n ∧ n < 2 ^ 63 ∧ Q (.int n) H2) E
theorem call_lenO {X : Cx} {CX : CXT} {k : Nat} {C : Addr} {ps : List Str} {sp : Sp} {E : XK} (D : DefM X.prog X.w X.K X.mg X.base CX k C "__len__" ps sp) (hr : Room (k + 1) X.A) (hx : ∀ σ, PassesAt CX X σ E) : CallR X (.builtin "len") (rLenO C sp E) := by
  obtain ⟨f, fd, hm, hb, F⟩ := D.ex
  intro pins s σ H xs us Q I r h
  obtain ⟨a, dx, fs, rfl, ea, q⟩ := h
  obtain ⟨u, rfl, ru⟩ := vals1 r
  cases ru
  obtain ⟨mA, O, _⟩ := ins_get I.hok ea
  refine len_ownK I.kIn O hm (wpAny_mono (run_fnS1 (E := fun _ => E) (us := [.ref a]) (vs := [.ref a]) F hr hb (hx σ) I (.cons rfl .nil) q) (fun v s3 ⟨z, H3, I3, rz, n, e, h0, h1, q3⟩ => ?_) fun _ _ z => z)
  subst e
  obtain ⟨t, rfl⟩ := rz
  exact ⟨n, t, rfl, h0, h1, .int n, H3, I3.tok _, ⟨_, rfl⟩, q3⟩
/-- its object is a def -/
def GetFn (K : PySem.W.Frag) (C : Addr) : Prop := ∀ f, PySem.W.findIn K (.ref C) "__getitem__" = some (some (.ref f)) → PySem.W.fnIn K f = true
/-- the element of a subscription of an own object -/
def OwnSl (i : Expr) : Prop := ∀ x iv, subscripted i true (.ref x) iv = runValue (.builtin "lifetime.subscript" ⟨[.ref x, iv], []⟩)
theorem pe_ixO {X : Cx} {CX : CXT} {k : Nat} {C : Addr} {ps : List Str} {sp : Sp} {E : St → XK} {i o : Expr} {ty tp : TE} {pos : Pos} (D : DefM X.prog X.w X.K X.mg X.base CX k C "__getitem__" ps sp) (gf : GetFn X.K C) (hr : Room (k + 1) X.A) (hx : ∀ σ, PassesAt CX X σ (E σ)) (ho : PE X o tp) (hi : PE X i ty) (hs : OwnSl i) : PE X (.Subscript o i pos) (tIxO C sp E tp ty) := by
  obtain ⟨f, fd, hm, hb, F⟩ := D.ex
  refine ⟨fun pins s σ H Q I h => ?_⟩
  refine Subscript_ (thn (ho.run pins s σ H _ I h) fun u s1 ⟨x, H1, I1, rx, q1⟩ => thn (hi.run pins s1 σ H1 _ I1 q1) fun iv s2 ⟨y, H2, I2, ry, a, dx, fs, ex, ea, q2⟩ => ?_)
  subst ex
  obtain rfl : u = Value.ref a := rx
  obtain ⟨mA, O, _⟩ := ins_get I2.hok ea
  obtain ⟨od, J, _⟩ := O.look
  have run := run_fnS1 (us := [.ref a, iv]) (vs := [.ref a, y]) F hr hb (hx σ) I2 (.cons rfl (.cons ry .nil)) q2
  have hf := gf f hm.at_
  unfold PySem.W.fnIn at hf
  split at hf
  · rename_i e
    unfold subscriptTail getitemInPython
    refine wpAny_bind (wpAny_bind (wpAny_bind (J.type.here ((PySem.W.looks_findIn I2.kIn hm.at_).here ?_))))
    dsimp only
    refine wpAny_bind (wpAny_load (I2.kIn _ _ e) (wpAny_pure ?_))
    dsimp only
    rw [hs a iv]
    refine wpAny_bind (wpAny_runValue (codeAny_builtin PySem.W.entry_sub ?_))
    unfold Builtin.«lifetime.subscript»
    refine wpAny_bind (special_own I2.kIn O hm (wpAny_mono run (fun v s' z => ?_) fun _ _ z => z))
    refine wpAny_pure ?_
    show wpAny (model X.prog X.w) X.A (letTemporaryGo o (.ref a) v >>= fun _ => pure v) (EP X pins σ Q) X.xe s'
    exact wpAny_bind (wpAny_letTemporaryGo (wpAny_pure z))
  · cases hf
/-- p == q, both of the class at C whose __eq__ says sp -/
def tEqO (C : Addr) (sp : Sp) (E : St → XK) (ta tb : TE) : TE := fun σ H Q => ta σ H fun x H1 => tb σ H1 fun y H2 => ∃ a b dx fs dx' fs', x = .ref a ∧ y = .ref b ∧ H2 a = some (.ins C dx fs) ∧ H2 b = some (.ins C dx' fs') ∧ sp [.ref a, .ref b] H2 (fun v H3 => ∃ c, v = .bl c ∧ Q (.bl c) H3) (E σ)
theorem eq_own {P : Program} {w : World} {A : Around} {E : Value → Shared → Prop} {s : Shared} {K : PySem.W.Frag} {a b C f dx dx' : Addr} {mA mB : Str → Option Value} {Q : Value → Shared → Prop} (X : K.In s.heap) (I : ObjM s.heap a dx C mA) (I' : ObjM s.heap b dx' C mB) (hm : Meth K C "__eq__" f) (hu : A.units < cLine)
    (hc : wpAny (model P w) A (call (.ref f) [.ref a, .ref b]) (fun v s' => ∃ c, v = .bool c ∧ Q (.bool c) s') E s) : wpAny (model P w) A (compareOp .Eq (.ref a) (.ref b)) Q E s := by
  obtain ⟨od, J, _⟩ := I.look
  obtain ⟨od', J', _⟩ := I'.look
  unfold compareOp richCompare
  simp only [oneThing_ref]
  refine wpAny_holding ?_
  refine wpAny_bind (wpAny_cRoomFor hu ?_)
  dsimp only [cmpInfo]
  refine wpAny_bind (J.type.here (wpAny_bind (J'.type.here ?_)))
  rw [show (Value.ref C != Value.ref C) = false from by simp]
  simp only [Bool.false_eq_true, if_false]
  refine wpAny_bind (wpAny_pure ?_)
  simp only [Bool.false_eq_true, if_false]
  unfold tryCompare
  refine wpAny_bind (wpAny_bind (PySem.W.ifBound_K X J hm.at_ hm.fn (wpAny_mono hc (fun v s' hv => ?_) fun _ _ e => e)))
  obtain ⟨c, rfl, hq⟩ := hv
  exact wpAny_pure (wpAny_pure hq)
theorem pc_eqO {X : Cx} {CX : CXT} {k : Nat} {C : Addr} {ps : List Str} {sp : Sp} {E : St → XK} {l r : Expr} {ta tb : TE} (D : DefM X.prog X.w X.K X.mg X.base CX k C "__eq__" ps sp) (hu : X.A.units < cLine) (hr : Room k X.A) (hx : ∀ σ, PassesAt CX X σ (E σ)) (hl : PE X l ta) (hrr : PE X r tb) : PC X .Eq l r (tEqO C sp E ta tb) := by
  obtain ⟨f, fd, hm, hb, F⟩ := D.ex
  refine ⟨fun pins s σ H Q I h => ?_⟩
  refine thn (hl.run pins s σ H _ I h) fun iv s1 ⟨x, H1, I1, rx, q1⟩ => thn (hrr.run pins s1 σ H1 _ I1 q1) fun u s2 ⟨y, H2, I2, ry, a, b, dx, fs, dx', fs', ex, ey, ea, eb, q2⟩ => ?_
  subst ex ey
  obtain rfl : iv = Value.ref a := rx
  obtain rfl : u = Value.ref b := ry
  obtain ⟨mA, O, _⟩ := ins_get I2.hok ea
  obtain ⟨mB, O', _⟩ := ins_get I2.hok eb
  refine eq_own I2.kIn O O' hm hu (wpAny_mono (run_fnS (us := [.ref a, .ref b]) (vs := [.ref a, .ref b]) F hr hb (hx σ) I2 (.cons rfl (.cons rfl .nil)) q2) (fun v s3 ⟨z, H3, I3, rz, c, e, q3⟩ => ?_) fun _ _ z => z)
  subst e
  cases rz
  exact ⟨c, rfl, .bl c, H3, I3, rfl, q3⟩
/-- a dict of the module with words as keys: what stands at z -/
def KDat (K : PySem.W.Frag) (w : World) (a : Addr) (z : Str) (o : Option Value) : Prop := ∃ es n, K.lookup a = some ⟨.type "dict", none, .dict es n, #[]⟩ ∧ PySem.W.KeysLit w.params es.toList ∧ (a == sysModules) = false ∧ PySem.W.nsIn K a z = some o
def rInKD (K : PySem.W.Frag) (w : World) : R2 := fun x y H Q => ∃ a z o, x = .str z ∧ y = .ref a ∧ KDat K w a z o ∧ Q (.bl o.isSome) H
def rNotInKD (K : PySem.W.Frag) (w : World) : R2 := fun x y H Q => ∃ a z o, x = .str z ∧ y = .ref a ∧ KDat K w a z o ∧ Q (.bl (!o.isSome)) H
theorem op_inKD {X : Cx} : OpR X (compareOp .In) (rInKD X.K X.w) := by
  intro pins s σ H x y v u Q I rx ry h
  obtain ⟨a, z, o, rfl, rfl, ⟨es, n, hl, hk, low, hm⟩, q⟩ := h
  obtain ⟨t, rfl⟩ := (show ∃ t, v = Value.str z t from rx)
  obtain rfl : u = Value.ref a := ry
  have hm' := PySem.W.mapOf_K (prog := X.prog) (w := X.w) I.kIn hl hk
  refine wpAny_in_of (strKind_is X.prog X.w z t) low hm' ?_
  rw [PySem.W.find_K hl hm]
  exact ⟨.bl o.isSome, H, I.tok _, rfl, q⟩
theorem op_notinKD {X : Cx} : OpR X (compareOp .NotIn) (rNotInKD X.K X.w) := by
  intro pins s σ H x y v u Q I rx ry h
  obtain ⟨a, z, o, rfl, rfl, ⟨es, n, hl, hk, low, hm⟩, q⟩ := h
  obtain ⟨t, rfl⟩ := (show ∃ t, v = Value.str z t from rx)
  obtain rfl : u = Value.ref a := ry
  have hm' := PySem.W.mapOf_K (prog := X.prog) (w := X.w) I.kIn hl hk
  refine wpAny_notIn_of (strKind_is X.prog X.w z t) low hm' ?_
  rw [PySem.W.find_K hl hm]
  exact ⟨.bl (!o.isSome), H, I.tok _, rfl, q⟩
end L2

set_option Elab.async false
set_option linter.all false
set_option maxRecDepth 100000
set_option maxHeartbeats 4000000
/-! The ground: special methods of own classes. -/
namespace L2
open PySem PySem.Spec PyProof.Rows PySem.HErr
/-- an instance of the class at C -/
def InsC (fr : Fr) (Θ : List Cel) (p : Vp) (C : Addr) : Prop := ∀ F H v, OkF fr Θ F H → p.p F v → ∃ a dx fs, v = .ref a ∧ H a = some (.ins C dx fs)
section
variable {fr : Fr} {Γ Γ' : Gam} {Θ : List Cel} {F F' H H' : Hp} {K : Vp → List Cel → Prop} {Q : VK} {C : Addr} {sp : Sp} {E : L2.St → XK} {ta tb : TE}
theorem InsP.c {p : Vp} {m : Str} (h : InsP fr Θ p C m) : InsC fr Θ p C := fun F H v ok hv => by
  obtain ⟨a, dx, fs, h1, h2, _⟩ := h F H v ok hv
  exact ⟨a, dx, fs, h1, h2⟩
theorem we_inO (w : We fr Γ Θ ta fun q Θ1 => We fr Γ Θ1 tb fun p Θ2 => InsC fr Θ2 p C ∧ Sps fr Γ Θ2 sp E [p, q] fun r Θ3 => ∃ b, r = iz zB b ∧ K (iz zB b) Θ3) : We fr Γ Θ (tInO C sp E ta tb) K := fun σ F H ok env Q k =>
  w σ F H ok env _ fun q Θ1 w1 y F1 H1 s1 ok1 hy => w1 σ F1 H1 ok1 (env.mono s1) _ fun p Θ2 ⟨ic, w2⟩ x F2 H2 s2 ok2 hx => by
    obtain ⟨a, dx, fs, rfl, h2⟩ := ic F2 H2 x ok2 hx
    exact ⟨a, dx, fs, rfl, h2, w2 σ F2 H2 _ ok2 ((env.mono s1).mono s2) (.cons hx (.cons (q.mono s2 hy) .nil)) _ fun r Θ3 ⟨b, e, kk⟩ v F3 H3 s3 ok3 hv => by
      subst e
      have hv : v = .bl b := hv
      exact ⟨b, hv, k _ Θ3 kk _ F3 H3 ((s1.trans s2).trans s3) ok3 rfl⟩⟩
theorem we_notinO (w : We fr Γ Θ ta fun q Θ1 => We fr Γ Θ1 tb fun p Θ2 => InsC fr Θ2 p C ∧ Sps fr Γ Θ2 sp E [p, q] fun r Θ3 => ∃ b, r = iz zB b ∧ K (iz zB (!b)) Θ3) : We fr Γ Θ (tNotInO C sp E ta tb) K := fun σ F H ok env Q k =>
  w σ F H ok env _ fun q Θ1 w1 y F1 H1 s1 ok1 hy => w1 σ F1 H1 ok1 (env.mono s1) _ fun p Θ2 ⟨ic, w2⟩ x F2 H2 s2 ok2 hx => by
    obtain ⟨a, dx, fs, rfl, h2⟩ := ic F2 H2 x ok2 hx
    exact ⟨a, dx, fs, rfl, h2, w2 σ F2 H2 _ ok2 ((env.mono s1).mono s2) (.cons hx (.cons (q.mono s2 hy) .nil)) _ fun r Θ3 ⟨b, e, kk⟩ v F3 H3 s3 ok3 hv => by
      subst e
      have hv : v = .bl b := hv
      exact ⟨b, hv, k _ Θ3 kk _ F3 H3 ((s1.trans s2).trans s3) ok3 rfl⟩⟩
theorem we_ixO (w : We fr Γ Θ ta fun p Θ1 => We fr Γ Θ1 tb fun q Θ2 => InsC fr Θ2 p C ∧ Sps fr Γ Θ2 sp E [p, q] K) : We fr Γ Θ (tIxO C sp E ta tb) K := fun σ F H ok env Q k =>
  w σ F H ok env _ fun p Θ1 w1 x F1 H1 s1 ok1 hx => w1 σ F1 H1 ok1 (env.mono s1) _ fun q Θ2 ⟨ic, w2⟩ y F2 H2 s2 ok2 hy => by
    have hx2 := p.mono s2 hx
    obtain ⟨a, dx, fs, rfl, h2⟩ := ic F2 H2 x ok2 hx2
    exact ⟨a, dx, fs, rfl, h2, w2 σ F2 H2 _ ok2 ((env.mono s1).mono s2) (.cons hx2 (.cons hy .nil)) _ (k.mono (s1.trans s2))⟩
theorem we_eqO (w : We fr Γ Θ ta fun p Θ1 => We fr Γ Θ1 tb fun q Θ2 => InsC fr Θ2 p C ∧ InsC fr Θ2 q C ∧ Sps fr Γ Θ2 sp E [p, q] fun r Θ3 => ∃ b, r = iz zB b ∧ K (iz zB b) Θ3) : We fr Γ Θ (tEqO C sp E ta tb) K := fun σ F H ok env Q k =>
  w σ F H ok env _ fun p Θ1 w1 x F1 H1 s1 ok1 hx => w1 σ F1 H1 ok1 (env.mono s1) _ fun q Θ2 ⟨ic, ic2, w2⟩ y F2 H2 s2 ok2 hy => by
    have hx2 := p.mono s2 hx
    obtain ⟨a, dx, fs, rfl, h2⟩ := ic F2 H2 x ok2 hx2
    obtain ⟨b, dx', fs', rfl, h3⟩ := ic2 F2 H2 y ok2 hy
    exact ⟨a, b, dx, fs, dx', fs', rfl, rfl, h2, h3, w2 σ F2 H2 _ ok2 ((env.mono s1).mono s2) (.cons hx2 (.cons hy .nil)) _ fun r Θ3 ⟨c, e, kk⟩ v F3 H3 s3 ok3 hv => by
      subst e
      have hv : v = .bl c := hv
      exact ⟨c, hv, k _ Θ3 kk _ F3 H3 ((s1.trans s2).trans s3) ok3 rfl⟩⟩
theorem cb_lenO {E : XK} {p : Vp} (ic : InsC fr Θ p C) (w : Sps fr Γ Θ sp (fun _ => E) [p] fun r Θ3 => ∃ n : Int, r = iz zI n ∧ 0 ≤ n ∧ n < 2 ^ 63 ∧ K (iz zI n) Θ3) (hg : ∃ σ, ∀ F H, OkF fr Θ F H → EnvF Γ σ F) : Cbs fr Θ (rLenO C sp E) [p] K := fun F H vs ok hps Q k => by
  cases hps with
  | cons h1 hp => cases hp with
    | nil =>
      obtain ⟨σ, hσ⟩ := hg
      obtain ⟨a, dx, fs, rfl, h2⟩ := ic F H _ ok h1
      exact ⟨a, dx, fs, rfl, h2, w σ F H _ ok (hσ F H ok) (.cons h1 .nil) _ fun r Θ3 ⟨n, e, n0, n1, kk⟩ v F3 H3 s3 ok3 hv => by
        subst e
        have hv : v = .int n := hv
        exact ⟨n, hv, n0, n1, k _ Θ3 kk _ F3 H3 s3 ok3 rfl⟩⟩
end
section
variable {fr : Fr} {Γ Γ' : Gam} {Θ : List Cel} {F F' H H' : Hp} {K : Vp → List Cel → Prop} {Q : VK}
theorem kpt_truth {X : Cx} {Kf : PySem.W.Frag} {a : Expr} {ta : TE} (ha : PE X a ta) (he : ∀ whole, isTrue a X.env whole = (do let v ← whole; standAt a.pos; holding [v] (truthy v))) (h : X.K = Kf := by rfl) : PT X a (tTru Kf ta) := h ▸ pt_truth ha he
/-- a value's truth -/
def TruP (fr : Fr) (Θ : List Cel) (Kf : PySem.W.Frag) (p : Vp) (b : Bool) : Prop := ∀ F H v, OkF fr Θ F H → p.p F v → TruV Kf v H b
theorem wt_tru {Kf : PySem.W.Frag} {t : TE} {Kb' : Bool → List Cel → Prop} (w : We fr Γ Θ t fun p Θ1 => ∃ b, TruP fr Θ1 Kf p b ∧ Kb' b Θ1) : Wt fr Γ Θ (tTru Kf t) Kb' := fun σ F H ok env Q q =>
  w σ F H ok env _ fun p Θ1 ⟨b, ht, kk⟩ v F1 H1 s1 ok1 hp => ⟨b, ht F1 H1 v ok1 hp, q b Θ1 kk F1 H1 s1 ok1⟩
theorem emp_len {α β : Type} {R : α → β → Prop} {l : List α} {m : List β} (h : Paired R l m) : l.isEmpty = m.isEmpty := by cases h <;> rfl
theorem tru_L {Kf : PySem.W.Frag} {α : Type} {r : Rep α} {xs : List α} : TruP fr Θ Kf (iz (zL r) xs) (!xs.isEmpty) := fun F H v ok ⟨a, vs, h1, h2, h3⟩ => by
  subst h1
  exact .inl ⟨vs, SqL.of (ok.fh _ _ h2), by rw [emp_len h3]⟩
theorem tru_T {Kf : PySem.W.Frag} {α : Type} {r : Rep α} {xs : List α} : TruP fr Θ Kf (iz (zT r) xs) (!xs.isEmpty) := fun F H v ok ⟨a, vs, h1, h2, h3⟩ => by
  subst h1
  exact .inr (.inl ⟨vs, SqT.of (ok.fh _ _ h2), by rw [emp_len h3]⟩)
theorem tru_C {Kf : PySem.W.Frag} {α : Type} {r : Rep α} {xs : List α} {a : Addr} (hc : cL a r xs ∈ Θ) : TruP fr Θ Kf (zAt a) (!xs.isEmpty) := fun F H v ok hv => by
  have hv : v = .ref a := hv
  subst hv
  obtain ⟨_, ⟨o, h2, vs, rfl, h4⟩, _⟩ := ok.ce _ hc
  exact .inl ⟨vs, SqL.of h2, by rw [emp_len h4]⟩
/-! slices of tuples -/
theorem sls_T {Kf : PySem.W.Frag} {α : Type} {r : Rep α} {xs : List α} {lo hi : Option Int} (hn : ¬ (HT.sIx xs.length 0 lo = 0 ∧ HT.sIx xs.length xs.length hi = xs.length)) (k : K (iz (zT r) (cutX xs lo hi)) Θ) : Sls fr Θ (rSlT Kf) (iz (zT r) xs) lo hi K := fun F H v ok hv Q q => by
  obtain ⟨a, vs, rfl, h2, h3⟩ := hv
  exact ⟨a, vs, rfl, SqT.of (ok.fh _ _ h2), by rw [Paired.len h3]; exact hn, fun l nl => q.new k ok nl ⟨l, _, rfl, upd_same, Paired.imp2 (fun _ _ h => r.mono (ok.sameF nl) h) (pvs_cut h3)⟩⟩
/-! a module's dict of words -/
theorem kop_inKD {X : Cx} {Kf : PySem.W.Frag} {w : World} (h : X.K = Kf := by rfl) (hw : X.w = w := by rfl) : OpR X (compareOp .In) (rInKD Kf w) := h ▸ hw ▸ op_inKD
theorem kop_notinKD {X : Cx} {Kf : PySem.W.Frag} {w : World} (h : X.K = Kf := by rfl) (hw : X.w = w := by rfl) : OpR X (compareOp .NotIn) (rNotInKD Kf w) := h ▸ hw ▸ op_notinKD
theorem kix_kdict {X : Cx} {Kf : PySem.W.Frag} {w : World} (h : X.K = Kf := by rfl) (hw : X.w = w := by rfl) : IxR X (rIxD Kf w) := h ▸ hw ▸ ix_kdict
theorem ops_inKD {Kf : PySem.W.Frag} {w : World} {a : Addr} {z : Str} {o : Option Value} (hd : KDat Kf w a z o) (k : K (iz zB o.isSome) Θ) : Ops fr Θ (rInKD Kf w) (iz zS z) (zAt a) K := fun F H v u ok hv hu Q q => ⟨a, z, o, hv.1, hu, hd, q.go k ok rfl⟩
theorem ops_notinKD {Kf : PySem.W.Frag} {w : World} {a : Addr} {z : Str} {o : Option Value} (hd : KDat Kf w a z o) (k : K (iz zB (!o.isSome)) Θ) : Ops fr Θ (rNotInKD Kf w) (iz zS z) (zAt a) K := fun F H v u ok hv hu Q q => ⟨a, z, o, hv.1, hu, hd, q.go k ok rfl⟩
theorem ops_ixKD {Kf : PySem.W.Frag} {w : World} {a f : Addr} {z : Str} (hd : KDat Kf w a z (some (.ref f))) (k : K (zAt f) Θ) : Ops fr Θ (rIxD Kf w) (zAt a) (iz zS z) K := fun F H v u ok hv hu Q q => by
  obtain ⟨es, n, h1, h2, _, h3⟩ := hd
  exact ⟨a, z, .ref f, hv, hu.1, ⟨es, n, .ref f, h1, h2, h3, rfl⟩, q.go k ok rfl⟩
/-- a call of a name that holds one of several defs -/
theorem we_callA {i : Nat} {S : Addr → Option Sp} {t : TA} {f : Addr} {sp : Sp} (hi : Γ[i]? = some (some (zAt f))) (hS : S f = some sp) (w : Wa fr Γ Θ t fun ps Θ1 => Sps fr Γ Θ1 sp (fun _ _ _ _ => False) ps K) : We fr Γ Θ (tCallA i S t) K := fun σ F H ok env Q q => by
  obtain ⟨v, h1, h2⟩ := env.get hi
  have h2 : v = .ref f := h2
  subst h2
  exact ⟨f, sp, h1, hS, w σ F H ok env _ fun ps Θ1 k vs F1 H1 s1 ok1 hps => k σ F1 H1 vs ok1 (env.mono s1) hps Q (q.mono s1)⟩
end
end L2

set_option Elab.async false
set_option linter.all false
set_option maxRecDepth 100000
set_option maxHeartbeats 4000000
/-! What a def computes, by what is wanted (a predicate transformer over plain things); things of bounded size. The walks over these are printed by tool/wg.py. -/
namespace L2
open PySem PySem.Spec PyProof.Rows PySem.HErr
abbrev big : Nat := 100000
theorem big_line {n : Nat} (h : n ≤ big) : n ≤ sizeLine := Nat.le_trans h (by unfold sizeLine; decide)
theorem big_lt {n : Nat} (h : n ≤ big) : n < sizeLine := Nat.lt_of_le_of_lt h (by unfold sizeLine; decide)
/-! ### errors -/
inductive EK where
  | tooMany | badWord | double | badNumber | empty | unknown | inUse | badState | notReady | notSound | badPair | badText | noUndo
  deriving DecidableEq
inductive HE where
  | tooMany (kind : Str) (limit : Int)
  | badWord (w : Str)
  | double (n : Str)
  | badNumber (n : Int)
  | empty (n : Str)
  | unknown (n : Str)
  | inUse (n : Str)
  | badState (ns : List Int)
  | notReady (s p : Str) (i : Int)
  | notSound (d : PyData)
  | badPair (n : Str)
  | badText (n : Int)
  | noUndo
def HE.k : HE → EK
  | .tooMany _ _ => .tooMany
  | .badWord _ => .badWord
  | .double _ => .double
  | .badNumber _ => .badNumber
  | .empty _ => .empty
  | .unknown _ => .unknown
  | .inUse _ => .inUse
  | .badState _ => .badState
  | .notReady _ _ _ => .notReady
  | .notSound _ => .notSound
  | .badPair _ => .badPair
  | .badText _ => .badText
  | .noUndo => .noUndo
/-- what is wanted: of the result, of an error -/
abbrev DM (β : Type) := (β → Prop) → (HE → Prop) → Prop
def noX : HE → Prop := fun _ => False
/-! ### ways -/
def ifD (c : Bool) (A B : Prop) : Prop := (c = true → A) ∧ (c = false → B)
def andD (c : Bool) (f : (Bool → Prop) → Prop) (k : Bool → Prop) : Prop := (c = true → f k) ∧ (c = false → k false)
def orD (c : Bool) (f : (Bool → Prop) → Prop) (k : Bool → Prop) : Prop := (c = true → k true) ∧ (c = false → f k)
def joinD {S : Type} (f : (S → Prop) → Prop) (k : S → Prop) : Prop := f k
def forD {α S : Type} : List α → S → (α → S → (S → Prop) → (S → Prop) → Prop) → (S → Prop) → Prop
  | [], s, _, after => after s
  | x :: xs, s, body, after => body x s (fun s' => forD xs s' body after) after
def whileN {S : Type} : Nat → S → (S → (S → Prop) → (S → Prop) → Prop) → (S → Prop) → Prop
  | 0, _, _, _ => False
  | n + 1, s, step, after => step s (fun s' => whileN n s' step after) after
def whileD {S : Type} (s : S) (step : S → (S → Prop) → (S → Prop) → Prop) (after : S → Prop) : Prop := ∃ n, whileN n s step after
def mapD {α β : Type} : List α → List β → (α → (β → Prop) → Prop) → (List β → Prop) → Prop
  | [], acc, _, k => k acc
  | x :: xs, acc, f, k => f x fun y => mapD xs (acc ++ [y]) f k
def compD {α β : Type} : List α → List β → (α → (Option β → Prop) → Prop) → (List β → Prop) → Prop
  | [], acc, _, k => k acc
  | x :: xs, acc, f, k => f x fun o => compD xs (acc ++ o.toList) f k
def catD {α β : Type} : List α → List β → (α → List β → (List β → Prop) → Prop) → (List β → Prop) → Prop
  | [], acc, _, k => k acc
  | x :: xs, acc, f, k => f x acc fun acc' => catD xs acc' f k
/-- the inner walk of a comprehension with two for: it goes on with what is made so far -/
def innD {α β : Type} : List α → List β → (α → (Option β → Prop) → Prop) → (List β → Prop) → Prop
  | [], acc, _, k => k acc
  | x :: xs, acc, f, k => f x fun o => (acc ++ o.toList).length ≤ big ∧ innD xs (acc ++ o.toList) f k
/-! ### things of bounded size -/
def Vp.Le (p q : Vp) : Prop := ∀ F v, p.p F v → q.p F v
theorem Vp.Le.refl (p : Vp) : p.Le p := fun _ _ h => h
def yN : Rep Unit := ⟨fun _ v _ => v = .non, fun _ h => h⟩
def yS : Rep Str := ⟨fun F v x => zS.p F v x ∧ x.length ≤ big, fun e h => ⟨zS.mono e h.1, h.2⟩⟩
def yL {α : Type} (r : Rep α) : Rep (List α) := ⟨fun F v x => (zL r).p F v x ∧ x.length ≤ big, fun e h => ⟨(zL r).mono e h.1, h.2⟩⟩
def yT {α : Type} (r : Rep α) : Rep (List α) := ⟨fun F v x => (zT r).p F v x ∧ x.length ≤ big, fun e h => ⟨(zT r).mono e h.1, h.2⟩⟩
def yD {α : Type} (r : Rep α) : Rep (List (Str × α)) := ⟨fun F v x => (zD r).p F v x ∧ x.length ≤ big, fun e h => ⟨(zD r).mono e h.1, h.2⟩⟩
/-- None or a thing -/
def yO {α : Type} (r : Rep α) : Rep (Option α) := ⟨fun F v x => match x with | none => v = .non | some y => r.p F v y, fun {F F' v x} e h => by
  cases x with
  | none => exact h
  | some y => exact r.mono e h⟩
/-! data of any form -/
mutual
def xp (F : Hp) : PyData → V → Prop
  | .none, v => v = .non
  | .int i, v => v = .int i
  | .str x, v => v = .str x ∧ Asc x ∧ x.length ≤ big
  | .list ds, v => ∃ a vs, v = .ref a ∧ F a = some (.lst vs) ∧ ds.length ≤ big ∧ xpAll F ds vs
  | .tuple ds, v => ∃ a vs, v = .ref a ∧ F a = some (.tup vs) ∧ ds.length ≤ big ∧ xpAll F ds vs
  | .bool _, _ => False
  | .dict _, _ => False
def xpAll (F : Hp) : List PyData → List V → Prop
  | [], vs => vs = []
  | d :: ds, vs => ∃ v r, vs = v :: r ∧ xp F d v ∧ xpAll F ds r
end
mutual
theorem xp_mono {F F' : Hp} (e : Same F F') : ∀ (d : PyData) (v : V), xp F d v → xp F' d v
  | .none, _, h => by simp only [xp] at h ⊢; exact h
  | .int _, _, h => by simp only [xp] at h ⊢; exact h
  | .str _, _, h => by simp only [xp] at h ⊢; exact h
  | .bool _, _, h => by simp only [xp] at h
  | .dict _, _, h => by simp only [xp] at h
  | .list ds, _, h => by
    simp only [xp] at h ⊢
    obtain ⟨a, vs, h1, h2, h3, h4⟩ := h
    exact ⟨a, vs, h1, e _ _ h2, h3, xpAll_mono e ds vs h4⟩
  | .tuple ds, _, h => by
    simp only [xp] at h ⊢
    obtain ⟨a, vs, h1, h2, h3, h4⟩ := h
    exact ⟨a, vs, h1, e _ _ h2, h3, xpAll_mono e ds vs h4⟩
theorem xpAll_mono {F F' : Hp} (e : Same F F') : ∀ (ds : List PyData) (vs : List V), xpAll F ds vs → xpAll F' ds vs
  | [], _, h => by simp only [xpAll] at h ⊢; exact h
  | d :: ds, _, h => by
    simp only [xpAll] at h ⊢
    obtain ⟨v, r, h1, h2, h3⟩ := h
    exact ⟨v, r, h1, xp_mono e d v h2, xpAll_mono e ds r h3⟩
end
def yX : Rep PyData := ⟨fun F v d => xp F d v ∧ d.depth ≤ 60, fun e h => ⟨xp_mono e _ _ h.1, h.2⟩⟩
/-- lists and tuples of a fixed form -/
def zL3 {α β γ : Type} (r : Rep α) (s : Rep β) (t : Rep γ) : Rep (α × β × γ) := ⟨fun F v x => ∃ a u w z, v = .ref a ∧ F a = some (.lst [u, w, z]) ∧ r.p F u x.1 ∧ s.p F w x.2.1 ∧ t.p F z x.2.2, fun e ⟨a, u, w, z, h1, h2, h3, h4, h5⟩ => ⟨a, u, w, z, h1, e _ _ h2, r.mono e h3, s.mono e h4, t.mono e h5⟩⟩
def z4 {α β γ δ : Type} (r : Rep α) (s : Rep β) (t : Rep γ) (u : Rep δ) : Rep (α × β × γ × δ) := ⟨fun F v x => ∃ a v1 v2 v3 v4, v = .ref a ∧ F a = some (.tup [v1, v2, v3, v4]) ∧ r.p F v1 x.1 ∧ s.p F v2 x.2.1 ∧ t.p F v3 x.2.2.1 ∧ u.p F v4 x.2.2.2, fun e ⟨a, v1, v2, v3, v4, h1, h2, h3, h4, h5, h6⟩ => ⟨a, v1, v2, v3, v4, h1, e _ _ h2, r.mono e h3, s.mono e h4, t.mono e h5, u.mono e h6⟩⟩
def z5 {α β γ δ ε : Type} (r : Rep α) (s : Rep β) (t : Rep γ) (u : Rep δ) (w : Rep ε) : Rep (α × β × γ × δ × ε) := ⟨fun F v x => ∃ a v1 v2 v3 v4 v5, v = .ref a ∧ F a = some (.tup [v1, v2, v3, v4, v5]) ∧ r.p F v1 x.1 ∧ s.p F v2 x.2.1 ∧ t.p F v3 x.2.2.1 ∧ u.p F v4 x.2.2.2.1 ∧ w.p F v5 x.2.2.2.2, fun e ⟨a, v1, v2, v3, v4, v5, h1, h2, h3, h4, h5, h6, h7⟩ => ⟨a, v1, v2, v3, v4, v5, h1, e _ _ h2, r.mono e h3, s.mono e h4, t.mono e h5, u.mono e h6, w.mono e h7⟩⟩
def z1 {α : Type} (r : Rep α) : Rep α := ⟨fun F v x => ∃ a v1, v = .ref a ∧ F a = some (.tup [v1]) ∧ r.p F v1 x, fun e ⟨a, v1, h1, h2, h3⟩ => ⟨a, v1, h1, e _ _ h2, r.mono e h3⟩⟩
/-- a list of one's own, of bounded size -/
def cY {α : Type} (a : Addr) (r : Rep α) (xs : List α) : Cel := ⟨a, true, fun F o => (∃ vs, o = .lst vs ∧ PVs r F vs xs) ∧ xs.length ≤ big, fun e ⟨⟨vs, h1, h2⟩, h3⟩ => ⟨⟨vs, h1, Paired.imp2 (fun _ _ h => r.mono e h) h2⟩, h3⟩⟩
/-- a dict of one's own with keys that are words -/
def cYD {α : Type} (a : Addr) (r : Rep α) (rows : List (Str × α)) : Cel := ⟨a, true, fun F o => (∃ kvs, o = .dK kvs ∧ KVs r F kvs rows) ∧ rows.length ≤ big, fun e ⟨⟨kvs, h1, h2⟩, h3⟩ => ⟨⟨kvs, h1, h2.mono e⟩, h3⟩⟩
theorem le_yS {z : Str} (h : z.length ≤ big) : (iz zS z).Le (iz yS z) := fun _ _ q => ⟨q, h⟩
theorem le_zS {z : Str} : (iz yS z).Le (iz zS z) := fun _ _ q => q.1
theorem le_yL {α : Type} {r : Rep α} {xs : List α} (h : xs.length ≤ big) : (iz (zL r) xs).Le (iz (yL r) xs) := fun _ _ q => ⟨q, h⟩
theorem le_yT {α : Type} {r : Rep α} {xs : List α} (h : xs.length ≤ big) : (iz (zT r) xs).Le (iz (yT r) xs) := fun _ _ q => ⟨q, h⟩
theorem le_zL {α : Type} {r : Rep α} {xs : List α} : (iz (yL r) xs).Le (iz (zL r) xs) := fun _ _ q => q.1
theorem le_zT {α : Type} {r : Rep α} {xs : List α} : (iz (yT r) xs).Le (iz (zT r) xs) := fun _ _ q => q.1
theorem pvs_imp {α : Type} {r s : Rep α} {F : Hp} {vs : List V} {xs : List α} (h : PVs r F vs xs) (f : ∀ v x, x ∈ xs → r.p F v x → s.p F v x) : PVs s F vs xs := by
  induction h with
  | nil => exact .nil
  | cons a _ ih => exact .cons (f _ _ (List.mem_cons_self ..) a) (ih fun v x hx => f v x (List.mem_cons_of_mem _ hx))
theorem le_LL {α : Type} {r s : Rep α} {xs : List α} (h : xs.length ≤ big) (f : ∀ F v x, x ∈ xs → r.p F v x → s.p F v x) : (iz (zL r) xs).Le (iz (yL s) xs) := fun F v ⟨a, vs, h1, h2, h3⟩ => ⟨⟨a, vs, h1, h2, pvs_imp h3 (f F)⟩, h⟩
theorem le_TT {α : Type} {r s : Rep α} {xs : List α} (h : xs.length ≤ big) (f : ∀ F v x, x ∈ xs → r.p F v x → s.p F v x) : (iz (zT r) xs).Le (iz (yT s) xs) := fun F v ⟨a, vs, h1, h2, h3⟩ => ⟨⟨a, vs, h1, h2, pvs_imp h3 (f F)⟩, h⟩
theorem le_LLr {α : Type} {r s : Rep α} {xs : List α} (f : ∀ F v x, x ∈ xs → r.p F v x → s.p F v x) : (iz (yL r) xs).Le (iz (zL s) xs) := fun F v ⟨⟨a, vs, h1, h2, h3⟩, _⟩ => ⟨a, vs, h1, h2, pvs_imp h3 (f F)⟩
theorem le_TTr {α : Type} {r s : Rep α} {xs : List α} (f : ∀ F v x, x ∈ xs → r.p F v x → s.p F v x) : (iz (yT r) xs).Le (iz (zT s) xs) := fun F v ⟨⟨a, vs, h1, h2, h3⟩, _⟩ => ⟨a, vs, h1, h2, pvs_imp h3 (f F)⟩
section
variable {fr : Fr} {Γ Γ' : Gam} {Θ Θ' : List Cel} {F F' H H' : Hp} {K : Vp → List Cel → Prop} {Q : VK}
theorem Kq.conv (h : Kq fr F K Q) : Kq fr F (fun p Θ1 => ∃ q, p.Le q ∧ K q Θ1) Q := fun p Θ' ⟨q, l, k⟩ v F' H' s ok hp => h q Θ' k v F' H' s ok (l _ _ hp)
theorem We.conv {t : TE} (w : We fr Γ Θ t fun p Θ1 => ∃ q, p.Le q ∧ K q Θ1) : We fr Γ Θ t K := fun σ F H ok env Q q => w σ F H ok env Q q.conv
theorem Ops.conv {r : R2} {p q : Vp} (w : Ops fr Θ r p q fun p Θ1 => ∃ q, p.Le q ∧ K q Θ1) : Ops fr Θ r p q K := fun F H v w' ok h1 h2 Q k => w F H v w' ok h1 h2 Q k.conv
theorem Cbs.conv {r : List V → Hp → VK → Prop} {ps : List Vp} (w : Cbs fr Θ r ps fun p Θ1 => ∃ q, p.Le q ∧ K q Θ1) : Cbs fr Θ r ps K := fun F H vs ok h1 Q k => w F H vs ok h1 Q k.conv
theorem Mts.conv {r : V → List V → Hp → VK → Prop} {p : Vp} {ps : List Vp} (w : Mts fr Θ r p ps fun p Θ1 => ∃ q, p.Le q ∧ K q Θ1) : Mts fr Θ r p ps K := fun F H v vs ok h1 h2 Q k => w F H v vs ok h1 h2 Q k.conv
theorem Sls.conv {r : V → Option Int → Option Int → Hp → VK → Prop} {p : Vp} {lo hi : Option Int} (w : Sls fr Θ r p lo hi fun p Θ1 => ∃ q, p.Le q ∧ K q Θ1) : Sls fr Θ r p lo hi K := fun F H v ok h1 Q k => w F H v ok h1 Q k.conv
theorem Ops.le {r : R2} {p q p' q' : Vp} (w : Ops fr Θ r p' q' K) (h1 : p.Le p') (h2 : q.Le q') : Ops fr Θ r p q K := fun F H v w' ok a b Q k => w F H v w' ok (h1 _ _ a) (h2 _ _ b) Q k
theorem Sls.le {r : V → Option Int → Option Int → Hp → VK → Prop} {p p' : Vp} {lo hi : Option Int} (w : Sls fr Θ r p' lo hi K) (h : p.Le p') : Sls fr Θ r p lo hi K := fun F H v ok a Q k => w F H v ok (h _ _ a) Q k
/-- a fact that the value tells -/
theorem Ops.tell {r : R2} {p q : Vp} {A : Prop} (h : ∀ F v, p.p F v → A) (w : A → Ops fr Θ r p q K) : Ops fr Θ r p q K := fun F H v w' ok a b Q k => w (h _ _ a) F H v w' ok a b Q k
theorem Cbs.tell {r : List V → Hp → VK → Prop} {p : Vp} {ps : List Vp} {A : Prop} (h : ∀ F v, p.p F v → A) (w : A → Cbs fr Θ r (p :: ps) K) : Cbs fr Θ r (p :: ps) K := fun F H vs ok a Q k => by
  cases a with
  | cons a b => exact w (h _ _ a) F H _ ok (.cons a b) Q k
theorem Sls.tell {r : V → Option Int → Option Int → Hp → VK → Prop} {p : Vp} {lo hi : Option Int} {A : Prop} (h : ∀ F v, p.p F v → A) (w : A → Sls fr Θ r p lo hi K) : Sls fr Θ r p lo hi K := fun F H v ok a Q k => w (h _ _ a) F H v ok a Q k
theorem te_S {z : Str} : ∀ F v, (iz yS z).p F v → z.length ≤ big := fun _ _ h => h.2
theorem te_L {α : Type} {r : Rep α} {xs : List α} : ∀ F v, (iz (yL r) xs).p F v → xs.length ≤ big := fun _ _ h => h.2
theorem te_T {α : Type} {r : Rep α} {xs : List α} : ∀ F v, (iz (yT r) xs).p F v → xs.length ≤ big := fun _ _ h => h.2
theorem te_D {α : Type} {r : Rep α} {xs : List (Str × α)} : ∀ F v, (iz (yD r) xs).p F v → xs.length ≤ big := fun _ _ h => h.2
/-! constants, texts -/
theorem we_cSy {z : Str} (h : Asc z) (hl : z.length ≤ big) (k : K (iz yS z) Θ) : We fr Γ Θ (tC (.str z)) K := we_c (p := iz yS z) (fun _ => ⟨⟨rfl, h⟩, hl⟩) k
theorem we_cNy (k : K (iz yN ()) Θ) : We fr Γ Θ (tC .non) K := we_c (fun _ => rfl) k
theorem oy_eqS {m n : Str} (k : K (iz zB (decide (m = n))) Θ) : Ops fr Θ rEq (iz yS m) (iz yS n) K := (ops_eqS k).le le_zS le_zS
theorem oy_neS {m n : Str} (k : K (iz zB (!decide (m = n))) Θ) : Ops fr Θ rNe (iz yS m) (iz yS n) K := (ops_neS k).le le_zS le_zS
theorem oy_addS {m n : Str} (hl : m.length + n.length ≤ big) (k : K (iz yS (m ++ n)) Θ) : Ops fr Θ (fun x y H Q => ∃ i j, x = .str i ∧ y = .str j ∧ i.length + j.length ≤ sizeLine ∧ Q (.str (i ++ j)) H) (iz yS m) (iz yS n) K :=
  (Ops.conv (ops_addS (big_line hl) ⟨_, le_yS (by show (m.cps ++ n.cps).size ≤ big; rw [Array.size_append]; exact hl), k⟩)).le le_zS le_zS
theorem ascT {z : Str} {c : Nat} (h : Asc z) (hc : c ∈ z.cps.toList) : Asc ⟨#[c]⟩ := fun d hd => by
  have : d = c := by simpa using hd
  rw [this]
  exact h c hc
theorem oy_ixS {z : Str} {n : Int} {c : Nat} (e : atI z.cps.toList n = some c) (k : K (iz yS ⟨#[c]⟩) Θ) : Ops fr Θ rIxS (iz yS z) (iz zI n) K :=
  Ops.tell te_S fun hl => (Ops.conv (ops_ixS (big_line hl) e ⟨_, le_yS (by show 1 ≤ big; decide), k⟩)).le le_zS (Vp.Le.refl _)
/-! lists, tuples that are read -/
def SeqY {α : Type} (fr : Fr) (Θ : List Cel) (p : Vp) (r : Rep α) (xs : List α) : Prop := SeqP fr Θ p r xs ∧ ∀ F H v, OkF fr Θ F H → p.p F v → xs.length ≤ big
theorem sy_L {α : Type} {r : Rep α} {xs : List α} : SeqY fr Θ (iz (yL r) xs) r xs := ⟨fun F H v ok h => seq_L F H v ok h.1, fun _ _ _ _ h => h.2⟩
theorem sy_T {α : Type} {r : Rep α} {xs : List α} : SeqY fr Θ (iz (yT r) xs) r xs := ⟨fun F H v ok h => seq_T F H v ok h.1, fun _ _ _ _ h => h.2⟩
theorem sy_C {α : Type} {r : Rep α} {xs : List α} {a : Addr} {j : Nat} (hj : Θ[j]? = some (cY a r xs)) : SeqY fr Θ (zAt a) r xs := ⟨fun F H v ok hv => by
  obtain ⟨_, ⟨o, h2, ⟨⟨vs, rfl, h4⟩, h5⟩⟩, _⟩ := ok.ce _ (List.mem_of_getElem? hj)
  exact ⟨a, vs, hv, .inl h2, h4⟩, fun F H v ok hv => by
  obtain ⟨_, ⟨o, h2, ⟨⟨vs, rfl, h4⟩, h5⟩⟩, _⟩ := ok.ce _ (List.mem_of_getElem? hj)
  exact h5⟩
theorem seq_yS {p : Vp} {xs : List Str} (h : SeqY fr Θ p yS xs) : SeqP fr Θ p zS xs := fun F H v ok hv => by
  obtain ⟨a, vs, h1, h2, h3⟩ := h.1 F H v ok hv
  exact ⟨a, vs, h1, h2, Paired.imp2 (fun _ _ q => q.1) h3⟩
theorem oy_inS {Kf : PySem.W.Frag} {p : Vp} {z : Str} {xs : List Str} (h : SeqY fr Θ p yS xs) (k : K (iz zB (decide (z ∈ xs))) Θ) : Ops fr Θ (rIn Kf false) (iz yS z) p K := (ops_inS (seq_yS h) k).le le_zS (Vp.Le.refl _)
theorem oy_ninS {Kf : PySem.W.Frag} {p : Vp} {z : Str} {xs : List Str} (h : SeqY fr Θ p yS xs) (k : K (iz zB (!decide (z ∈ xs))) Θ) : Ops fr Θ (rIn Kf true) (iz yS z) p K := (ops_ninS (seq_yS h) k).le le_zS (Vp.Le.refl _)
theorem oy_inI {Kf : PySem.W.Frag} {p : Vp} {z : Int} {xs : List Int} (h : SeqY fr Θ p zI xs) (k : K (iz zB (decide (z ∈ xs))) Θ) : Ops fr Θ (rIn Kf false) (iz zI z) p K := ops_inI h.1 k
theorem oy_ninI {Kf : PySem.W.Frag} {p : Vp} {z : Int} {xs : List Int} (h : SeqY fr Θ p zI xs) (k : K (iz zB (!decide (z ∈ xs))) Θ) : Ops fr Θ (rIn Kf true) (iz zI z) p K := ops_ninI h.1 k
theorem oy_ixL {Kf : PySem.W.Frag} {α : Type} {r : Rep α} {xs : List α} {n : Int} {x : α} (e : atI xs n = some x) (k : K (iz r x) Θ) : Ops fr Θ (rIxL Kf) (iz (yL r) xs) (iz zI n) K := (ops_ixL e k).le le_zL (Vp.Le.refl _)
theorem oy_ixT {Kf : PySem.W.Frag} {α : Type} {r : Rep α} {xs : List α} {n : Int} {x : α} (e : atI xs n = some x) (k : K (iz r x) Θ) : Ops fr Θ (rIxT Kf) (iz (yT r) xs) (iz zI n) K := (ops_ixT e k).le le_zT (Vp.Le.refl _)
theorem oy_ixC {Kf : PySem.W.Frag} {α : Type} {r : Rep α} {xs : List α} {n : Int} {x : α} {a : Addr} {j : Nat} (hj : Θ[j]? = some (cY a r xs)) (e : atI xs n = some x) (k : K (iz r x) Θ) : Ops fr Θ (rIxL Kf) (zAt a) (iz zI n) K := fun F H v w ok hv hw Q q => by
  obtain ⟨_, ⟨o, h2, ⟨⟨vs, rfl, h4⟩, h5⟩⟩, _⟩ := ok.ce _ (List.mem_of_getElem? hj)
  have hv : v = .ref a := hv
  have hw : w = .int n := hw
  subst hv hw
  obtain ⟨u, hu, hr⟩ := pvs_at h4 e
  exact ⟨a, vs, n, u, rfl, rfl, SqL.of h2, hu, q.go k ok hr⟩
theorem oy_ixLp0 {Kf : PySem.W.Frag} {α β : Type} {r : Rep α} {s : Rep β} {x : α × β} (k : K (iz r x.1) Θ) : Ops fr Θ (rIxL Kf) (iz (zLp r s) x) (iz zI 0) K := fun F H v w ok ⟨a, u, z, h1, h2, h3, h4⟩ hw Q q => by
  have hw : w = .int 0 := hw
  subst h1 hw
  exact ⟨a, _, 0, u, rfl, rfl, SqL.of (ok.fh _ _ h2), rfl, q.go k ok h3⟩
theorem oy_ixLp1 {Kf : PySem.W.Frag} {α β : Type} {r : Rep α} {s : Rep β} {x : α × β} (k : K (iz s x.2) Θ) : Ops fr Θ (rIxL Kf) (iz (zLp r s) x) (iz zI 1) K := fun F H v w ok ⟨a, u, z, h1, h2, h3, h4⟩ hw Q q => by
  have hw : w = .int 1 := hw
  subst h1 hw
  exact ⟨a, _, 1, z, rfl, rfl, SqL.of (ok.fh _ _ h2), rfl, q.go k ok h4⟩
theorem oy_ixL30 {Kf : PySem.W.Frag} {α β γ : Type} {r : Rep α} {s : Rep β} {t : Rep γ} {x : α × β × γ} (k : K (iz r x.1) Θ) : Ops fr Θ (rIxL Kf) (iz (zL3 r s t) x) (iz zI 0) K := fun F H v w ok ⟨a, u, y, z, h1, h2, h3, h4, h5⟩ hw Q q => by
  have hw : w = .int 0 := hw
  subst h1 hw
  exact ⟨a, _, 0, u, rfl, rfl, SqL.of (ok.fh _ _ h2), rfl, q.go k ok h3⟩
theorem oy_ixL31 {Kf : PySem.W.Frag} {α β γ : Type} {r : Rep α} {s : Rep β} {t : Rep γ} {x : α × β × γ} (k : K (iz s x.2.1) Θ) : Ops fr Θ (rIxL Kf) (iz (zL3 r s t) x) (iz zI 1) K := fun F H v w ok ⟨a, u, y, z, h1, h2, h3, h4, h5⟩ hw Q q => by
  have hw : w = .int 1 := hw
  subst h1 hw
  exact ⟨a, _, 1, y, rfl, rfl, SqL.of (ok.fh _ _ h2), rfl, q.go k ok h4⟩
theorem oy_ixL32 {Kf : PySem.W.Frag} {α β γ : Type} {r : Rep α} {s : Rep β} {t : Rep γ} {x : α × β × γ} (k : K (iz t x.2.2) Θ) : Ops fr Θ (rIxL Kf) (iz (zL3 r s t) x) (iz zI 2) K := fun F H v w ok ⟨a, u, y, z, h1, h2, h3, h4, h5⟩ hw Q q => by
  have hw : w = .int 2 := hw
  subst h1 hw
  exact ⟨a, _, 2, z, rfl, rfl, SqL.of (ok.fh _ _ h2), rfl, q.go k ok h5⟩
theorem oy_ix40 {Kf : PySem.W.Frag} {α β γ δ : Type} {r : Rep α} {s : Rep β} {t : Rep γ} {u : Rep δ} {x : α × β × γ × δ} (k : K (iz r x.1) Θ) : Ops fr Θ (rIxT Kf) (iz (z4 r s t u) x) (iz zI 0) K := fun F H v w ok ⟨a, v1, v2, v3, v4, h1, h2, h3, h4, h5, h6⟩ hw Q q => by
  have hw : w = .int 0 := hw
  subst h1 hw
  exact ⟨a, _, 0, v1, rfl, rfl, SqT.of (ok.fh _ _ h2), rfl, q.go k ok h3⟩
theorem oy_ix41 {Kf : PySem.W.Frag} {α β γ δ : Type} {r : Rep α} {s : Rep β} {t : Rep γ} {u : Rep δ} {x : α × β × γ × δ} (k : K (iz s x.2.1) Θ) : Ops fr Θ (rIxT Kf) (iz (z4 r s t u) x) (iz zI 1) K := fun F H v w ok ⟨a, v1, v2, v3, v4, h1, h2, h3, h4, h5, h6⟩ hw Q q => by
  have hw : w = .int 1 := hw
  subst h1 hw
  exact ⟨a, _, 1, v2, rfl, rfl, SqT.of (ok.fh _ _ h2), rfl, q.go k ok h4⟩
theorem oy_ix42 {Kf : PySem.W.Frag} {α β γ δ : Type} {r : Rep α} {s : Rep β} {t : Rep γ} {u : Rep δ} {x : α × β × γ × δ} (k : K (iz t x.2.2.1) Θ) : Ops fr Θ (rIxT Kf) (iz (z4 r s t u) x) (iz zI 2) K := fun F H v w ok ⟨a, v1, v2, v3, v4, h1, h2, h3, h4, h5, h6⟩ hw Q q => by
  have hw : w = .int 2 := hw
  subst h1 hw
  exact ⟨a, _, 2, v3, rfl, rfl, SqT.of (ok.fh _ _ h2), rfl, q.go k ok h5⟩
theorem oy_ix43 {Kf : PySem.W.Frag} {α β γ δ : Type} {r : Rep α} {s : Rep β} {t : Rep γ} {u : Rep δ} {x : α × β × γ × δ} (k : K (iz u x.2.2.2) Θ) : Ops fr Θ (rIxT Kf) (iz (z4 r s t u) x) (iz zI 3) K := fun F H v w ok ⟨a, v1, v2, v3, v4, h1, h2, h3, h4, h5, h6⟩ hw Q q => by
  have hw : w = .int 3 := hw
  subst h1 hw
  exact ⟨a, _, 3, v4, rfl, rfl, SqT.of (ok.fh _ _ h2), rfl, q.go k ok h6⟩
theorem cy_len {Kf : PySem.W.Frag} {α : Type} {r : Rep α} {xs : List α} {p : Vp} (h : SeqY fr Θ p r xs) (k : xs.length ≤ big → K (iz zI xs.length) Θ) : Cbs fr Θ (rLenQ Kf) [p] K := fun F H vs ok hps Q q => by
  have hl : xs.length ≤ big := by
    cases hps with
    | cons a b => exact h.2 F H _ ok a
  exact cb_len h.1 (k hl) F H vs ok hps Q q
theorem cy_lenS {z : Str} (k : z.length ≤ big → K (iz zI z.length) Θ) : Cbs fr Θ (fun xs H Q => ∃ z, xs = [.str z] ∧ z.length ≤ sizeLine ∧ Q (.int z.length) H) [iz yS z] K := Cbs.tell te_S fun hl F H vs ok hps Q q => cb_lenS (big_line hl) (k hl) F H vs ok (by
  cases hps with
  | cons a b => cases b with
    | nil => exact .cons a.1 .nil) Q q
theorem cy_list {Kf : PySem.W.Frag} {α : Type} {r : Rep α} {xs : List α} {p : Vp} (h : SeqY fr Θ p r xs) (k : K (iz (yL r) xs) Θ) : Cbs fr Θ (rListQ Kf) [p] K := fun F H vs ok hps Q q => by
  have hl : xs.length ≤ big := by
    cases hps with
    | cons a b => exact h.2 F H _ ok a
  exact (Cbs.conv (cb_list h.1 ⟨_, le_yL hl, k⟩)) F H vs ok hps Q q
theorem cy_listO {Kf : PySem.W.Frag} {α : Type} {r : Rep α} {xs : List α} {p : Vp} (h : SeqY fr Θ p r xs) (k : ∀ a, K (zAt a) (cY a r xs :: Θ)) : Cbs fr Θ (rListQ Kf) [p] K := fun F H vs ok hps Q q => by
  cases hps with
  | cons a b => cases b with
    | nil =>
      have hl := h.2 F H _ ok a
      obtain ⟨p, us, h1, h2, h3⟩ := h.1 F H _ ok a
      refine ⟨p, us, by rw [h1], sq_or h2, fun l nl => q _ _ (k l) _ F _ (Same.refl F) (ok.mkOwn (c := cY l r xs) nl rfl ⟨⟨_, rfl, h3⟩, hl⟩) rfl⟩
theorem cy_tupleL {Kf : PySem.W.Frag} {α : Type} {r : Rep α} {xs : List α} (k : K (iz (yT r) xs) Θ) : Cbs fr Θ (rTupQ Kf) [iz (yL r) xs] K := Cbs.tell te_L fun hl => Cbs.conv (cb_tuple (r := r) (xs := xs) (fun F H v ok ⟨⟨a, vs, h1, h2, h3⟩, _⟩ => ⟨a, vs, h1, .inl (ok.fh _ _ h2), h3⟩) ⟨_, le_yT hl, k⟩)
theorem cy_tupleT {Kf : PySem.W.Frag} {α : Type} {r : Rep α} {xs : List α} (k : K (iz (yT r) xs) Θ) : Cbs fr Θ (rTupQ Kf) [iz (yT r) xs] K := Cbs.tell te_T fun hl => Cbs.conv (cb_tuple (r := r) (xs := xs) (fun F H v ok ⟨⟨a, vs, h1, h2, h3⟩, _⟩ => ⟨a, vs, h1, .inr h2, h3⟩) ⟨_, le_yT hl, k⟩)
theorem cy_tupleC {Kf : PySem.W.Frag} {α : Type} {r : Rep α} {xs : List α} {a : Addr} {j : Nat} (hj : Θ[j]? = some (cY a r xs)) (k : K (iz (yT r) xs) Θ) : Cbs fr Θ (rTupQ Kf) [zAt a] K := fun F H vs ok hps Q q => by
  obtain ⟨_, ⟨o, h2, ⟨⟨us, rfl, h4⟩, h5⟩⟩, _⟩ := ok.ce _ (List.mem_of_getElem? hj)
  have h2 : H a = some (.lst us) := h2
  refine (Cbs.conv (cb_tuple (r := r) (xs := xs) (fun F' H' v ok' hv => ?_) ⟨_, le_yT h5, k⟩)) F H vs ok hps Q q
  obtain ⟨_, ⟨o', g2, ⟨⟨us', rfl, g4⟩, g5⟩⟩, _⟩ := ok'.ce _ (List.mem_of_getElem? hj)
  exact ⟨a, us', hv, .inl g2, g4⟩
theorem cy_any {Kf : PySem.W.Frag} {xs : List Bool} (k : K (iz zB (xs.any id)) Θ) : Cbs fr Θ (rAny Kf) [iz (yL zB) xs] K := fun F H vs ok hps Q q => cb_any k F H vs ok (by
  cases hps with
  | cons a b => cases b with
    | nil => exact .cons a.1 .nil) Q q
theorem cy_all {Kf : PySem.W.Frag} {xs : List Bool} (k : K (iz zB (xs.all id)) Θ) : Cbs fr Θ (rAll Kf) [iz (yL zB) xs] K := fun F H vs ok hps Q q => cb_all k F H vs ok (by
  cases hps with
  | cons a b => cases b with
    | nil => exact .cons a.1 .nil) Q q
theorem cy_sum {Kf : PySem.W.Frag} {xs : List Int} (k : K (iz zI xs.sum) Θ) : Cbs fr Θ (rSum Kf) [iz (yL zI) xs] K := fun F H vs ok hps Q q => cb_sum k F H vs ok (by
  cases hps with
  | cons a b => cases b with
    | nil => exact .cons a.1 .nil) Q q
theorem cy_intB {b : Bool} (k : K (iz zI (if b then 1 else 0)) Θ) : Cbs fr Θ (fun xs H Q => (∃ i, xs = [.int i] ∧ Q (.int i) H) ∨ ∃ k, xs = [.bl k] ∧ Q (.int (if k then 1 else 0)) H) [iz zB b] K := fun F H vs ok hps Q q => by
  cases hps with
  | cons h1 hp => cases hp with
    | nil =>
      have h1 : _ = V.bl b := h1
      subst h1
      exact .inr ⟨b, rfl, q.go k ok rfl⟩
theorem cutX_len {α : Type} {xs : List α} {lo hi : Option Int} {n : Nat} (h : xs.length ≤ n) : (cutX xs lo hi).length ≤ n := by
  unfold cutX
  have h1 := List.length_take_le (HT.sIx xs.length xs.length hi - HT.sIx xs.length 0 lo) (xs.drop (HT.sIx xs.length 0 lo))
  rw [List.length_take, List.length_drop]
  omega
theorem sy_slL {Kf : PySem.W.Frag} {α : Type} {r : Rep α} {xs : List α} {lo hi : Option Int} (k : K (iz (yL r) (cutX xs lo hi)) Θ) : Sls fr Θ (rSlL Kf) (iz (yL r) xs) lo hi K := Sls.tell te_L fun hl => (Sls.conv (sls_L ⟨_, le_yL (cutX_len hl), k⟩)).le le_zL
theorem sy_slT {Kf : PySem.W.Frag} {α : Type} {r : Rep α} {xs : List α} {lo hi : Option Int} (hn : ¬ (HT.sIx xs.length 0 lo = 0 ∧ HT.sIx xs.length xs.length hi = xs.length)) (k : K (iz (yT r) (cutX xs lo hi)) Θ) : Sls fr Θ (rSlT Kf) (iz (yT r) xs) lo hi K := Sls.tell te_T fun hl => (Sls.conv (sls_T hn ⟨_, le_yT (cutX_len hl), k⟩)).le le_zT
theorem oy_cat {α : Type} {r : Rep α} {xs ys : List α} (hl : xs.length + ys.length ≤ big) (k : K (iz (yL r) (xs ++ ys)) Θ) : Ops fr Θ rCat (iz (yL r) xs) (iz (yL r) ys) K := (Ops.conv (ops_cat (big_line hl) ⟨_, le_yL (by rw [List.length_append]; exact hl), k⟩)).le le_zL le_zL
theorem oy_rep1 {α : Type} {r : Rep α} {x : α} {n : Int} (h0 : -1000000 ≤ n) (h1 : n ≤ big) (k : K (iz (yL r) (List.replicate n.toNat x)) Θ) : Ops fr Θ rRep (iz (yL r) [x]) (iz zI n) K := by
  refine (Ops.conv (ops_rep (by omega) (by have : (big : Int) = 100000 := rfl; omega) (big_line (by have : big = 100000 := rfl; show 1 * n.toNat ≤ big; omega)) ⟨_, ?_, k⟩)).le le_zL (Vp.Le.refl _)
  rw [flat_one]
  refine le_yL ?_
  rw [List.length_replicate]
  have : big = 100000 := rfl
  omega
/-! displays -/
theorem we_lstY {α : Type} {r : Rep α} {t : TA} (w : Wa fr Γ Θ t fun ps Θ1 => ∃ xs : List α, ps = xs.map (iz r) ∧ xs.length ≤ 1000 ∧ K (iz (yL r) xs) Θ1) : We fr Γ Θ (tLst t) K := We.conv (we_lst (r := r) fun σ F H ok env Q q => w σ F H ok env Q fun ps Θ1 ⟨xs, e, hl, k⟩ => q ps Θ1 ⟨xs, e, by rw [e, List.length_map]; exact hl, _, le_yL (Nat.le_trans hl (by decide)), k⟩)
theorem we_ownY {α : Type} (r : Rep α) {t : TA} (w : Wa fr Γ Θ t fun ps Θ1 => ∃ xs : List α, ps = xs.map (iz r) ∧ xs.length ≤ 1000 ∧ ∀ a, K (zAt a) (cY a r xs :: Θ1)) : We fr Γ Θ (tLst t) K := fun σ F H ok env Q q =>
  w σ F H ok env _ fun ps Θ1 ⟨xs, e, hl, k⟩ vs F1 H1 s1 ok1 hps => by
    subst e
    have h4 := pvs_map hps
    exact ⟨Nat.le_of_lt (small1000 (by rw [Paired.len h4]; exact hl)), fun p np => q _ _ (k p) _ F1 _ s1 (ok1.mkOwn (c := cY p r xs) np rfl ⟨⟨_, rfl, h4⟩, Nat.le_trans hl (by decide)⟩) rfl⟩
theorem we_nilY {α : Type} (r : Rep α) (k : K (iz (yL r) []) Θ) : We fr Γ Θ (tLst tNil) K := we_lstY (wa_nil ⟨[], rfl, Nat.zero_le _, k⟩)
theorem we_nilO {α : Type} (r : Rep α) (k : ∀ a, K (zAt a) (cY a r [] :: Θ)) : We fr Γ Θ (tLst tNil) K := we_ownY r (wa_nil ⟨[], rfl, Nat.zero_le _, k⟩)
theorem we_tupT {α : Type} {r : Rep α} {t : TA} (w : Wa fr Γ Θ t fun ps Θ1 => ∃ xs : List α, ps = xs.map (iz r) ∧ xs.length ≤ 1000 ∧ K (iz (yT r) xs) Θ1) : We fr Γ Θ (tTup t) K := We.conv (we_tup fun σ F H ok env Q q => w σ F H ok env Q fun ps Θ1 ⟨xs, e, hl, k⟩ => q ps Θ1 (by
  subst e
  exact ⟨by rw [List.length_map]; exact hl, _, trT xs, _, le_yT (Nat.le_trans hl (by decide)), k⟩))
theorem tr4 {α β γ δ : Type} {r : Rep α} {s : Rep β} {t : Rep γ} {u : Rep δ} {x : α} {y : β} {z : γ} {w : δ} : TupR [iz r x, iz s y, iz t z, iz u w] (iz (z4 r s t u) (x, y, z, w)) := fun F a vs h hp => by
  cases hp with
  | cons h1 hp => cases hp with
    | cons h2 hp => cases hp with
      | cons h3 hp => cases hp with
        | cons h4 hp => cases hp with
          | nil => exact ⟨a, _, _, _, _, rfl, h, h1, h2, h3, h4⟩
theorem tr5 {α β γ δ ε : Type} {r : Rep α} {s : Rep β} {t : Rep γ} {u : Rep δ} {o : Rep ε} {x : α} {y : β} {z : γ} {w : δ} {v : ε} : TupR [iz r x, iz s y, iz t z, iz u w, iz o v] (iz (z5 r s t u o) (x, y, z, w, v)) := fun F a vs h hp => by
  cases hp with
  | cons h1 hp => cases hp with
    | cons h2 hp => cases hp with
      | cons h3 hp => cases hp with
        | cons h4 hp => cases hp with
          | cons h5 hp => cases hp with
            | nil => exact ⟨a, _, _, _, _, _, rfl, h, h1, h2, h3, h4, h5⟩
theorem tr1 {α : Type} {r : Rep α} {x : α} : TupR [iz r x] (iz (z1 r) x) := fun F a vs h hp => by
  cases hp with
  | cons h1 hp => cases hp with
    | nil => exact ⟨a, _, rfl, h, h1⟩
theorem we_tupX {t : TA} {q : Vp} (w : Wa fr Γ Θ t fun ps Θ1 => ps.length ≤ 1000 ∧ TupR ps q ∧ K q Θ1) : We fr Γ Θ (tTup t) K := we_tup fun σ F H ok env Q k => w σ F H ok env Q fun ps Θ1 ⟨h1, h2, h3⟩ => k ps Θ1 ⟨h1, q, h2, h3⟩
theorem we_lst3 {α β γ : Type} {r : Rep α} {s : Rep β} {o : Rep γ} {t : TA} (w : Wa fr Γ Θ t fun ps Θ1 => ∃ x y z, ps = [iz r x, iz s y, iz o z] ∧ K (iz (zL3 r s o) (x, y, z)) Θ1) : We fr Γ Θ (tLst t) K := fun σ F H ok env Q q =>
  w σ F H ok env _ fun ps Θ1 ⟨x, y, z, e, k⟩ vs F1 H1 s1 ok1 hps => by
    subst e
    cases hps with
    | cons h1 hp => cases hp with
      | cons h2 hp => cases hp with
        | cons h3 hp => cases hp with
          | nil =>
            refine ⟨by show 3 ≤ sizeLine; unfold sizeLine; decide, fun p np => ?_⟩
            exact (q.mono s1).new k ok1 np ⟨p, _, _, _, rfl, upd_same, r.mono (ok1.sameF np) h1, s.mono (ok1.sameF np) h2, o.mono (ok1.sameF np) h3⟩
end
end L2

set_option Elab.async false
set_option linter.all false
set_option maxRecDepth 100000
set_option maxHeartbeats 4000000
/-! Loops, comprehensions, statements, promises over plain things. -/
namespace L2
open PySem PySem.Spec PyProof.Rows PySem.HErr
theorem mapD_comp {α β : Type} {f : α → (β → Prop) → Prop} {k : List β → Prop} : ∀ (xs : List α) (acc : List β), mapD xs acc f k = compD xs acc (fun x k => f x fun y => k (some y)) k
  | [], _ => rfl
  | x :: xs, acc => by
    show (f x fun y => mapD xs (acc ++ [y]) f k) = f x fun y => compD xs (acc ++ [y]) _ k
    congr 1
    funext y
    exact mapD_comp xs _
theorem compD_pure {α β : Type} {pr : α → Bool} {f : α → β} {k : List β → Prop} : ∀ (xs : List α) (acc : List β), compD xs acc (fun x k => ifD (pr x) (k (some (f x))) (k none)) k = k (acc ++ (xs.filter pr).map f)
  | [], acc => by simp [compD]
  | x :: xs, acc => by
    show ifD (pr x) (compD xs (acc ++ [f x]) _ k) (compD xs (acc ++ []) _ k) = _
    rw [compD_pure xs, compD_pure xs, List.filter_cons]
    unfold ifD
    cases pr x <;> simp
theorem mapD_pure {α β : Type} {f : α → β} {k : List β → Prop} : ∀ (xs : List α) (acc : List β), mapD xs acc (fun x k => k (f x)) k = k (acc ++ xs.map f)
  | [], acc => by simp [mapD]
  | x :: xs, acc => by
    show mapD xs (acc ++ [f x]) _ k = _
    rw [mapD_pure xs]
    simp
section
variable {fr : Fr} {Γ Γ' : Gam} {Θ Θ' : List Cel} {F F' H H' : Hp} {K : Vp → List Cel → Prop} {Q : VK}
/-! walked things -/
theorem wi_yL {Kf : PySem.W.Frag} {tl : TE} {K : List Vp → List Cel → Prop} (w : We fr Γ Θ tl fun p Θ1 => ∃ (α : Type) (r : Rep α) (xs : List α), p = iz (yL r) xs ∧ (xs.length ≤ big → K (xs.map (iz r)) Θ1)) : Wi fr Γ Θ (iList Kf tl) K := fun σ F H ok env R q =>
  wi_list (fr := fr) (Γ := Γ) (Θ := Θ) (Kf := Kf) (tl := tl) (K := K) (fun σ F H ok env Q q => w σ F H ok env Q fun p Θ1 ⟨α, r, xs, e, k⟩ v F1 H1 s1 ok1 hp => by
    subst e
    exact q (iz (zL r) xs) Θ1 ⟨α, r, xs, rfl, k hp.2⟩ v F1 H1 s1 ok1 hp.1) σ F H ok env R q
theorem wi_yT {Kf : PySem.W.Frag} {tl : TE} {K : List Vp → List Cel → Prop} (w : We fr Γ Θ tl fun p Θ1 => ∃ (α : Type) (r : Rep α) (xs : List α), p = iz (yT r) xs ∧ (xs.length ≤ big → K (xs.map (iz r)) Θ1)) : Wi fr Γ Θ (iTup Kf tl) K := fun σ F H ok env R q =>
  wi_tup (fr := fr) (Γ := Γ) (Θ := Θ) (Kf := Kf) (tl := tl) (K := K) (fun σ F H ok env Q q => w σ F H ok env Q fun p Θ1 ⟨α, r, xs, e, k⟩ v F1 H1 s1 ok1 hp => by
    subst e
    exact q (iz (zT r) xs) Θ1 ⟨α, r, xs, rfl, k hp.2⟩ v F1 H1 s1 ok1 hp.1) σ F H ok env R q
/-! loops -/
theorem kn_forW {wi : TI} {g : TG} {tb : TS} {D : Ends} {α S : Type} {r : Rep α} (G : S → Gam) (T : S → List Cel) (s0 : S)
    (w : Wi fr Γ Θ wi fun its Θ1 => ∃ (xs : List α) (body : α → S → (S → Prop) → (S → Prop) → Prop) (after : S → Prop) (vs : List Nat) (Γ2 : α → S → Gam), its = xs.map (iz r) ∧ Θ1 = T s0 ∧ GLe Γ (G s0) ∧ (∀ x s, TgR g vs (iz r x) (G s) (Γ2 x s)) ∧ forD xs s0 body after ∧
      (∀ fr', FrLe fr fr' → ∀ x s nx M, (∀ s' Γ' Θ', nx s' → GLe Γ' (G s') → Θ' = T s' → Kn fr' Γ' Θ' M) → (∀ s' Γ' Θ', after s' → GLe Γ' (G s') → Θ' = T s' → Kn fr' Γ' Θ' D.nx) → body x s nx after → Kn fr' (Γ2 x s) (T s) (tb { D with nx := M, ct := M, bk := D.nx })) ∧
      (∀ s, after s → Kn fr (G s) (T s) D.nx)) : Kn fr Γ Θ (tFor wi g tb D) :=
  kn_for fun σ F H ok env R q => w σ F H ok env R fun its Θ1 ⟨xs, body, after, vs, Γ2, e1, e2, l0, tg, hf, hs, hd⟩ => q its Θ1 (by
    subst e1 e2
    refine ⟨fun i Γ1 Θ2 => ∃ s, Γ1 = G s ∧ Θ2 = T s ∧ forD (xs.drop i) s body after, ⟨G s0, l0, s0, rfl, rfl, hf⟩, fun fr' le i p Γ1 Θ2 hi ⟨s, eg, et, h⟩ => ?_, fun Γ1 Θ2 ⟨s, eg, et, h⟩ => ?_⟩
    · subst eg et
      obtain ⟨x, hx, rfl⟩ := get_izs hi
      rw [drop_at hx] at h
      refine ⟨vs, _, tg x s, hs fr' le x s _ _ (fun s' Γ' Θ' hn gl e => ?_) (fun s' Γ' Θ' hn gl e => ?_) h⟩
      · subst e
        exact kn_mid ⟨G s', gl, s', rfl, rfl, hn⟩
      · subst e
        exact ((hd s' hn).fine le).le gl
    · subst eg et
      rw [List.length_map, List.drop_length] at h
      exact hd s h)
theorem kn_whileW {c : TT} {tb : TS} {D : Ends} {S : Type} (G : S → Gam) (T : S → List Cel) (s0 : S) {step : S → (S → Prop) → (S → Prop) → Prop} {after : S → Prop} (h : whileD s0 step after) (l0 : GLe Γ (G s0)) (e0 : Θ = T s0)
    (hs : ∀ s nx M, (∀ s' Γ' Θ', nx s' → GLe Γ' (G s') → Θ' = T s' → Kn fr Γ' Θ' M) → (∀ s' Γ' Θ', after s' → GLe Γ' (G s') → Θ' = T s' → Kn fr Γ' Θ' D.nx) → step s nx after →
      Wt fr (G s) (T s) c fun b Θ1 => (b = true → Kn fr (G s) Θ1 (tb { D with nx := M, ct := M, bk := D.nx })) ∧ (b = false → Kn fr (G s) Θ1 D.nx))
    (hd : ∀ s, after s → Kn fr (G s) (T s) D.nx) : Kn fr Γ Θ (tWhile c tb D) := fun σ F H ok env => by
  subst e0
  obtain ⟨n0, h0⟩ := h
  refine ⟨fun m σ' H' => ∃ s F', whileN m s step after ∧ OkF fr (T s) F' H' ∧ EnvF (G s) σ' F', ⟨n0, s0, F, h0, ok, env.le l0⟩, ?_⟩
  rintro m σ1 H1 ⟨s, F1, hw, ok1, env1⟩
  cases m with
  | zero => exact hw.elim
  | succ m =>
    refine hs s (fun s' => whileN m s' step after) (Mid fr fun Γ Θ => ∃ s, Γ = G s ∧ Θ = T s ∧ whileN m s step after) (fun s' Γ' Θ' hn gl e => ?_) (fun s' Γ' Θ' hn gl e => ?_) hw σ1 F1 H1 ok1 env1 _ fun b Θ1 ⟨k1, k2⟩ F2 H2 s2 ok2 => ?_
    · subst e
      exact kn_mid ⟨G s', gl, s', rfl, rfl, hn⟩
    · subst e
      exact (hd s' hn).le gl
    · cases b with
      | true =>
        rw [if_pos rfl]
        refine ⟨_, ?_, k1 rfl σ1 F2 H2 ok2 (env1.mono s2)⟩
        rintro σ3 H3 ⟨Γ3, Θ3, F3, ⟨s3, rfl, rfl, hn⟩, ok3, env3⟩
        exact ⟨m, Nat.lt_succ_self m, s3, F3, hn, ok3, env3⟩
      | false =>
        rw [if_neg Bool.false_ne_true]
        exact k2 rfl σ1 F2 H2 ok2 (env1.mono s2)
theorem kn_cutW {t u : TS} {D : Ends} {S : Type} (G : S → Gam) (T : S → List Cel) {f : (S → Prop) → Prop} {k : S → Prop} (h : joinD f k)
    (hb : ∀ M, (∀ s' Γ' Θ', k s' → GLe Γ' (G s') → Θ' = T s' → Kn fr Γ' Θ' M) → f k → Kn fr Γ Θ (t { D with nx := M })) (hr : ∀ s, k s → Kn fr (G s) (T s) (u D)) : Kn fr Γ Θ (C8.tCut t u D) :=
  kn_cut (fun Γ Θ => ∃ s, Γ = G s ∧ Θ = T s ∧ k s) (hb _ (fun s' Γ' Θ' hn gl e => by
    subst e
    exact kn_mid ⟨G s', gl, s', rfl, rfl, hn⟩) h) fun Γ Θ ⟨s, e1, e2, hk⟩ => by
    subst e1 e2
    exact hr s hk
/-! and, or whose second part needs more -/
theorem wt_andC {K : Bool → List Cel → Prop} {t u : TT} (w : Wt fr Γ Θ t fun b Θ1 => (b = true → Wt fr Γ Θ1 u K) ∧ (b = false → K false Θ1)) : Wt fr Γ Θ (tAnd t u) K := fun σ F H ok env Q q =>
  w σ F H ok env _ fun b Θ1 ⟨k1, k2⟩ F1 H1 s1 ok1 => by
    cases b with
    | true => rw [if_pos rfl]; exact k1 rfl σ F1 H1 ok1 (env.mono s1) Q fun c Θ2 kk F2 H2 s2 => q c Θ2 kk F2 H2 (s1.trans s2)
    | false => rw [if_neg Bool.false_ne_true]; exact q false Θ1 (k2 rfl) F1 H1 s1 ok1
theorem wt_orC {K : Bool → List Cel → Prop} {t u : TT} (w : Wt fr Γ Θ t fun b Θ1 => (b = false → Wt fr Γ Θ1 u K) ∧ (b = true → K true Θ1)) : Wt fr Γ Θ (tOr t u) K := fun σ F H ok env Q q =>
  w σ F H ok env _ fun b Θ1 ⟨k2, k1⟩ F1 H1 s1 ok1 => by
    cases b with
    | true => rw [if_pos rfl]; exact q true Θ1 (k1 rfl) F1 H1 s1 ok1
    | false => rw [if_neg Bool.false_ne_true]; exact k2 rfl σ F1 H1 ok1 (env.mono s1) Q fun c Θ2 kk F2 H2 s2 => q c Θ2 kk F2 H2 (s1.trans s2)
theorem we_andC {t u : TE} (w : We fr Γ Θ t fun p Θ1 => ∃ b, p = iz zB b ∧ (b = true → We fr Γ Θ1 u K) ∧ (b = false → K (iz zB false) Θ1)) : We fr Γ Θ (tAndV t u) K := fun σ F H ok env Q q =>
  w σ F H ok env _ fun p Θ1 ⟨b, e, k1, k2⟩ v F1 H1 s1 ok1 hp => by
    subst e
    refine ⟨b, hp, ?_⟩
    cases b with
    | true => rw [if_pos rfl]; exact k1 rfl σ F1 H1 ok1 (env.mono s1) Q (q.mono s1)
    | false => rw [if_neg Bool.false_ne_true]; exact q _ Θ1 (k2 rfl) _ F1 H1 s1 ok1 rfl
theorem we_orC {t u : TE} (w : We fr Γ Θ t fun p Θ1 => ∃ b, p = iz zB b ∧ (b = false → We fr Γ Θ1 u K) ∧ (b = true → K (iz zB true) Θ1)) : We fr Γ Θ (tOrV t u) K := fun σ F H ok env Q q =>
  w σ F H ok env _ fun p Θ1 ⟨b, e, k2, k1⟩ v F1 H1 s1 ok1 hp => by
    subst e
    refine ⟨b, hp, ?_⟩
    cases b with
    | true => rw [if_pos rfl]; exact q _ Θ1 (k1 rfl) _ F1 H1 s1 ok1 rfl
    | false => rw [if_neg Bool.false_ne_true]; exact k2 rfl σ F1 H1 ok1 (env.mono s1) Q (q.mono s1)
theorem andK {b : Bool} {f : (Bool → Prop) → Prop} {k : Bool → Prop} {u : TT} {K : Bool → List Cel → Prop} (h : andD b f k) (x : f k → Wt fr Γ Θ u fun c Θ' => Θ' = Θ ∧ k c) (kk : ∀ c, k c → K c Θ) : (b = true → Wt fr Γ Θ u K) ∧ (b = false → K false Θ) :=
  ⟨fun e σ F H ok env Q q => x (h.1 e) σ F H ok env Q fun c Θ' ⟨e1, hc⟩ => q c Θ' (by rw [e1]; exact kk c hc), fun e => kk false (h.2 e)⟩
theorem orK {b : Bool} {f : (Bool → Prop) → Prop} {k : Bool → Prop} {u : TT} {K : Bool → List Cel → Prop} (h : orD b f k) (x : f k → Wt fr Γ Θ u fun c Θ' => Θ' = Θ ∧ k c) (kk : ∀ c, k c → K c Θ) : (b = false → Wt fr Γ Θ u K) ∧ (b = true → K true Θ) :=
  ⟨fun e σ F H ok env Q q => x (h.2 e) σ F H ok env Q fun c Θ' ⟨e1, hc⟩ => q c Θ' (by rw [e1]; exact kk c hc), fun e => kk true (h.1 e)⟩
theorem andKv {b : Bool} {f : (Bool → Prop) → Prop} {k : Bool → Prop} {u : TE} (h : andD b f k) (x : f k → We fr Γ Θ u fun p Θ' => Θ' = Θ ∧ ∃ c, p = iz zB c ∧ k c) (kk : ∀ c, k c → K (iz zB c) Θ) : ∃ b', iz zB b = iz zB b' ∧ (b' = true → We fr Γ Θ u K) ∧ (b' = false → K (iz zB false) Θ) :=
  ⟨b, rfl, fun e σ F H ok env Q q => x (h.1 e) σ F H ok env Q fun p Θ' ⟨e1, c, e2, hc⟩ => q p Θ' (by rw [e1, e2]; exact kk c hc), fun e => kk false (h.2 e)⟩
theorem orKv {b : Bool} {f : (Bool → Prop) → Prop} {k : Bool → Prop} {u : TE} (h : orD b f k) (x : f k → We fr Γ Θ u fun p Θ' => Θ' = Θ ∧ ∃ c, p = iz zB c ∧ k c) (kk : ∀ c, k c → K (iz zB c) Θ) : ∃ b', iz zB b = iz zB b' ∧ (b' = false → We fr Γ Θ u K) ∧ (b' = true → K (iz zB true) Θ) :=
  ⟨b, rfl, fun e σ F H ok env Q q => x (h.2 e) σ F H ok env Q fun p Θ' ⟨e1, c, e2, hc⟩ => q p Θ' (by rw [e1, e2]; exact kk c hc), fun e => kk true (h.1 e)⟩
/-- a if c else b, of one kind; f is a way of both -/
theorem we_ifD {α : Type} {r : Rep α} {c : TT} {ta tb : TE} {k : α → Prop} (w : Wt fr Γ Θ c fun b Θ1 => Θ1 = Θ ∧ (b = true → We fr Γ Θ ta fun p Θ2 => Θ2 = Θ ∧ ∃ x, p = iz r x ∧ k x) ∧ (b = false → We fr Γ Θ tb fun p Θ2 => Θ2 = Θ ∧ ∃ x, p = iz r x ∧ k x)) (kk : ∀ x, k x → K (iz r x) Θ) : We fr Γ Θ (tIf c ta tb) K :=
  we_if fun σ F H ok env Q q => w σ F H ok env Q fun b Θ1 ⟨e, k1, k2⟩ => q b Θ1 (by
    subst e
    exact ⟨fun h => (k1 h).imp fun p Θ2 ⟨e1, x, e2, hx⟩ => by rw [e1, e2]; exact kk x hx, fun h => (k2 h).imp fun p Θ2 ⟨e1, x, e2, hx⟩ => by rw [e1, e2]; exact kk x hx⟩)
/-- a < b < c of ints -/
theorem we_chainI {h1 h2 : Int → Int → Bool} {ta tb tc : TE} (w : We fr Γ Θ ta fun p Θ1 => We fr Γ Θ1 tb fun q Θ2 => ∃ a b c, p = iz zI a ∧ q = iz zI b ∧ Ev fr Γ Θ2 tc (iz zI c) ∧ K (iz zB (h1 a b && h2 b c)) Θ2) : We fr Γ Θ (tChain (rI0 fun i j => .bl (h1 i j)) (rI0 fun i j => .bl (h2 i j)) ta tb tc) K := fun σ F H ok env Q q =>
  w σ F H ok env _ fun p Θ1 w1 v1 F1 H1 s1 ok1 hp1 => w1 σ F1 H1 ok1 (env.mono s1) _ fun p2 Θ2 ⟨a, b, c, e1, e2, w2, k⟩ v2 F2 H2 s2 ok2 hp2 => by
    subst e1 e2
    refine ⟨a, b, hp1, hp2, h1 a b, rfl, ?_⟩
    cases hb : h1 a b with
    | true =>
      rw [if_pos rfl]
      refine w2 σ F2 H2 ok2 ((env.mono s1).mono s2) _ fun o Θ3 ⟨e3, e4⟩ v3 F3 H3 s3 ok3 hp3 => ?_
      subst e3 e4
      rw [hb, Bool.true_and] at k
      exact ⟨b, c, hp2, hp3, q _ Θ3 k _ F3 H3 ((s1.trans s2).trans s3) ok3 rfl⟩
    | false =>
      rw [if_neg Bool.false_ne_true]
      rw [hb, Bool.false_and] at k
      exact q _ Θ2 k _ F2 H2 (s1.trans s2) ok2 rfl
/-! comprehensions -/
theorem we_lcW {α β : Type} {r : Rep α} {s : Rep β} {wi : TI} {g : TG} {tt : TT} {te : TE} {vs : List Nat}
    (w : Wi fr Γ Θ wi fun its Θ1 => ∃ (xs : List α) (f : α → (Option β → Prop) → Prop) (k : List β → Prop) (Γ2 : α → Gam), its = xs.map (iz r) ∧ Θ1 = Θ ∧ xs.length ≤ big ∧ (∀ x, TgR g vs (iz r x) (wipeG Γ vs) (Γ2 x)) ∧ compD xs [] f k ∧
      (∀ x c kx, f x kx → Wt fr (Γ2 x) (c :: Θ) tt fun b Θ1 => (b = true → We fr (Γ2 x) Θ1 te fun q Θ' => Θ' = c :: Θ ∧ ∃ y, q = iz s y ∧ kx (some y)) ∧ (b = false → Θ1 = c :: Θ ∧ kx none)) ∧
      (∀ ys, k ys → ys.length ≤ big → K (iz (yL s) ys) Θ)) : We fr Γ Θ (tLc wi g tt te vs) K := fun σ F H ok env Q q => by
  refine w σ F H ok env _ fun its Θ1 ⟨xs, f, k, Γ2, e1, e2, hl, tg, hc, hs, hk⟩ J F1 H1 s1 ok1 jok => ?_
  subst e1 e2
  intro D nD
  refine ⟨fun i m H' => m = xs.length - i ∧ i ≤ xs.length ∧ ∃ F2 ys, Same F1 F2 ∧ OkF fr (cL D s ys :: Θ1) F2 H' ∧ ys.length ≤ i ∧ compD (xs.drop i) ys f k, ⟨xs.length, by simp, Nat.zero_le _, F1, [], Same.refl _, ok1.mkOwn (c := cL D s []) nD rfl ⟨[], rfl, .nil⟩, Nat.le_refl _, hc⟩, ?_⟩
  rintro i m H' ⟨rfl, hi, F2, ys, s2, ok2, yl, py⟩
  obtain ⟨j1, j2⟩ := jok F2 H' s2 ok2.fh
  by_cases hlt : i < xs.length
  · have hx : xs[i]? = some xs[i] := List.getElem?_eq_getElem hlt
    generalize xs[i] = x at hx
    obtain ⟨jg, jy⟩ := j1 i (iz r x) (by rw [List.getElem?_map, hx]; rfl)
    refine .inr ⟨jg, fun H3 => ∃ F3 ys, Same F1 F3 ∧ OkF fr (cL D s ys :: Θ1) F3 H3 ∧ ys.length ≤ i + 1 ∧ compD (xs.drop (i + 1)) ys f k, fun H3 p => ⟨xs.length - (i + 1), by omega, rfl, hlt, p⟩, fun v H3 y => ?_⟩
    obtain ⟨F3, e1, e2, e3, e4, e5⟩ := jy v H3 y
    have ok3 := ok2.grow e2 e1 e3 e4
    have s3 := s2.trans e1
    have hd : xs.drop i = x :: xs.drop (i + 1) := by
      obtain ⟨hl, e⟩ := List.getElem?_eq_some_iff.mp hx
      rw [List.drop_eq_getElem_cons hl, e]
    rw [hd] at py
    refine tg x (L2.wipe σ vs) F3 H3 v ok3.fh ((env.mono (s1.trans s3)).wipe vs) e5 _ fun σ2 env2 hw => ⟨?_, ?_⟩
    · rw [hw, wipe_idem]
    · refine hs x _ _ py σ2 F3 H3 ok3 env2 _ fun b Θ2 ⟨k1, k2⟩ F4 H4 s4 ok4 => ?_
      cases b with
      | true =>
        rw [if_pos rfl]
        refine k1 rfl σ2 F4 H4 ok4 (env2.mono s4) _ fun p Θ3 ⟨e8, y, e9, hy⟩ u F5 H5 s5 ok5 hp => ?_
        subst e8 e9
        obtain ⟨_, ⟨o, h2, acc, rfl, h4⟩, _⟩ := ok5.ce _ (List.mem_cons_self ..)
        have ok6 := ok5.mut (i := 0) (c := cL D s ys) (c' := cL D s (ys ++ [y])) (o := .lst (acc ++ [u])) rfl rfl rfl ⟨_, rfl, PySem.Paired.snoc h4 hp⟩
        refine ⟨acc, h2, ?_, F5, ys ++ [y], (s3.trans s4).trans s5, ok6, by rw [List.length_append]; show _ + 1 ≤ _; omega, hy⟩
        rw [Paired.len h4]
        exact big_lt (by omega)
      | false =>
        rw [if_neg Bool.false_ne_true]
        obtain ⟨e8, hn⟩ := k2 rfl
        subst e8
        have hn : compD (xs.drop (i + 1)) (ys ++ []) f k := hn
        rw [List.append_nil] at hn
        exact ⟨F4, ys, s3.trans s4, ok4, by omega, hn⟩
  · have e : i = xs.length := by omega
    subst e
    rw [List.drop_length] at py
    obtain ⟨_, ⟨o, h2, acc, rfl, h4⟩, _⟩ := ok2.ce _ (List.mem_cons_self ..)
    have ok3 := ok2.frz (i := 0) (c := cL D s ys) rfl rfl h2
    have sD : Same F2 (upd F2 D (.lst acc)) := same_upd (ok2.ce _ (List.mem_cons_self ..)).1
    have yb : ys.length ≤ big := by omega
    refine .inl ⟨by rw [List.length_map] at j2; exact j2, q _ _ (hk ys py yb) _ _ H' ((s1.trans s2).trans sD) ok3 ⟨⟨D, acc, rfl, upd_same, Paired.imp2 (fun _ _ h => s.mono sD h) h4⟩, yb⟩⟩
/-- with a test, all plain -/
theorem we_lcP {α β : Type} {r : Rep α} {s : Rep β} {wi : TI} {g : TG} {tt : TT} {te : TE} {vs : List Nat}
    (w : Wi fr Γ Θ wi fun its Θ1 => ∃ (xs : List α) (pr : α → Bool) (f : α → β) (Γ2 : α → Gam), its = xs.map (iz r) ∧ Θ1 = Θ ∧ xs.length ≤ big ∧ (∀ x, TgR g vs (iz r x) (wipeG Γ vs) (Γ2 x)) ∧
      (∀ x c, Et fr (Γ2 x) (c :: Θ) tt (pr x)) ∧ (∀ x c, Ev fr (Γ2 x) (c :: Θ) te (iz s (f x))) ∧ K (iz (yL s) ((xs.filter pr).map f)) Θ) : We fr Γ Θ (tLc wi g tt te vs) K :=
  we_lcW (r := r) (s := s) fun σ F H ok env R q => w σ F H ok env R fun its Θ1 ⟨xs, pr, f, Γ2, e1, e2, hl, tg, ht, he, k⟩ => q its Θ1 ⟨xs, fun x k => ifD (pr x) (k (some (f x))) (k none), (· = (xs.filter pr).map f), Γ2, e1, e2, hl, tg, by rw [compD_pure]; rfl,
    fun x c kx h σ F H ok env Q q => ht x c σ F H ok env Q fun b Θ1 ⟨e1, e2⟩ => q b Θ1 (by
      subst e1 e2
      exact ⟨fun hb => (he x c).imp fun p Θ' ⟨e3, e4⟩ => ⟨e4, _, e3, h.1 hb⟩, fun hb => ⟨rfl, h.2 hb⟩⟩), fun ys e _ => by rw [e]; exact k⟩
/-- without a test -/
theorem we_lcM {α β : Type} {r : Rep α} {s : Rep β} {wi : TI} {g : TG} {te : TE} {vs : List Nat}
    (w : Wi fr Γ Θ wi fun its Θ1 => ∃ (xs : List α) (f : α → (β → Prop) → Prop) (k : List β → Prop) (Γ2 : α → Gam), its = xs.map (iz r) ∧ Θ1 = Θ ∧ xs.length ≤ big ∧ (∀ x, TgR g vs (iz r x) (wipeG Γ vs) (Γ2 x)) ∧ mapD xs [] f k ∧
      (∀ x c kx, f x kx → We fr (Γ2 x) (c :: Θ) te fun q Θ' => Θ' = c :: Θ ∧ ∃ y, q = iz s y ∧ kx y) ∧
      (∀ ys, k ys → ys.length ≤ big → K (iz (yL s) ys) Θ)) : We fr Γ Θ (tLc wi g tYes te vs) K :=
  we_lcW (r := r) (s := s) fun σ F H ok env R q => w σ F H ok env R fun its Θ1 ⟨xs, f, k, Γ2, e1, e2, hl, tg, hm, he, hk⟩ => q its Θ1 ⟨xs, fun x k => f x fun y => k (some y), k, Γ2, e1, e2, hl, tg, by rw [← mapD_comp]; exact hm,
    fun x c kx h => wt_yes ⟨fun _ => (he x c _ h), (fun h => nomatch h)⟩, hk⟩
theorem we_lcM0 {α β : Type} {r : Rep α} {s : Rep β} {wi : TI} {g : TG} {te : TE} {vs : List Nat}
    (w : Wi fr Γ Θ wi fun its Θ1 => ∃ (xs : List α) (f : α → β) (Γ2 : α → Gam), its = xs.map (iz r) ∧ Θ1 = Θ ∧ xs.length ≤ big ∧ (∀ x, TgR g vs (iz r x) (wipeG Γ vs) (Γ2 x)) ∧
      (∀ x c, Ev fr (Γ2 x) (c :: Θ) te (iz s (f x))) ∧ K (iz (yL s) (xs.map f)) Θ) : We fr Γ Θ (tLc wi g tYes te vs) K :=
  we_lcM (r := r) (s := s) fun σ F H ok env R q => w σ F H ok env R fun its Θ1 ⟨xs, f, Γ2, e1, e2, hl, tg, he, k⟩ => q its Θ1 ⟨xs, fun x k => k (f x), (· = xs.map f), Γ2, e1, e2, hl, tg, by rw [mapD_pure]; rfl,
    fun x c kx h => (he x c).imp fun p Θ' ⟨e3, e4⟩ => ⟨e4, _, e3, h⟩, fun ys e _ => by rw [e]; exact k⟩
/-- a comprehension's list becomes one's own -/
theorem we_mine {α : Type} {r : Rep α} {xs : List α} {t : TE} (w : We fr Γ Θ t K) : We fr Γ Θ t K := w
/-! statements -/
theorem kn_appY {Kf : PySem.W.Frag} {α : Type} {r : Rep α} {xs : List α} {a : Addr} {i j : Nat} {te : TE} {D : Ends} (hi : Γ[i]? = some (some (zAt a))) (hj : Θ[j]? = some (cY a r xs))
    (w : We fr Γ Θ te fun p Θ1 => ∃ x, p = iz r x ∧ Θ1[j]? = some (cY a r xs) ∧ xs.length < big ∧ Kn fr Γ (Θ1.set j (cY a r (xs ++ [x]))) D.nx) : Kn fr Γ Θ (tDrop (tBM Kf "list" rAppend (tVar i) (tCons te tNil)) D) := by
  refine kn_drop (we_bm (we_var hi ⟨fun F H v ok hv => ?_, wa_cons (w.imp fun p Θ1 ⟨x, e, hj1, hl, k⟩ => wa_nil ?_)⟩))
  · obtain ⟨_, ⟨o, h2, ⟨⟨vs, rfl, h4⟩, h5⟩⟩, _⟩ := ok.ce _ (List.mem_of_getElem? hj)
    have hv : v = .ref a := hv
    subst hv
    exact .inl ⟨rfl, vs, SqL.of h2⟩
  · subst e
    intro F H v vs ok hv hps Q q
    cases hps with
    | cons h1 hp => cases hp with
      | nil =>
        obtain ⟨_, ⟨o, h2, ⟨⟨us, rfl, h4⟩, h5⟩⟩, _⟩ := ok.ce _ (List.mem_of_getElem? hj1)
        have ok2 := ok.mut (c' := cY a r (xs ++ [x])) (o := .lst (us ++ [_])) hj1 rfl rfl ⟨⟨_, rfl, PySem.Paired.snoc h4 h1⟩, by rw [List.length_append]; exact hl⟩
        exact ⟨a, us, _, hv, rfl, h2, by rw [Paired.len h4]; exact big_lt (Nat.le_of_lt hl), q zNon _ k _ F _ (Same.refl F) ok2 rfl⟩
theorem kn_setY {α : Type} {r : Rep α} {xs : List α} {a : Addr} {i j : Nat} {te ti : TE} {D : Ends} (hi : Γ[i]? = some (some (zAt a)))
    (w : We fr Γ Θ te fun p Θ1 => We fr Γ Θ1 ti fun q Θ2 => ∃ x n m, p = iz r x ∧ q = iz zI n ∧ Θ2[j]? = some (cY a r xs) ∧ ixN xs.length n = some m ∧ Kn fr Γ (Θ2.set j (cY a r (xs.set m x))) D.nx) : Kn fr Γ Θ (tAsg te (gSub (tVar i) ti rSetL) D) := fun σ F H ok env =>
  w σ F H ok env _ fun p Θ1 k v F1 H1 s1 ok1 hp => by
    obtain ⟨v0, h1, h2⟩ := (env.mono s1).get hi
    have h2 : v0 = .ref a := h2
    subst h2
    refine ⟨_, h1, k σ F1 H1 ok1 (env.mono s1) _ fun q Θ2 ⟨x, n, m, e1, e2, hj, hm, k2⟩ w2 F2 H2 s2 ok2 hp2 => ?_⟩
    subst e1 e2
    obtain ⟨_, ⟨o, h3, ⟨⟨us, rfl, h4⟩, h5⟩⟩, _⟩ := ok2.ce _ (List.mem_of_getElem? hj)
    exact ⟨a, us, n, m, rfl, hp2, h3, by rw [Paired.len h4]; exact hm, k2 σ F2 _ (ok2.mut hj rfl rfl ⟨⟨_, rfl, Paired.set (r.mono s2 hp) m h4⟩, by rw [List.length_set]; exact h5⟩) ((env.mono s1).mono s2)⟩
theorem set_same {σ : L2.St} {i : Nat} {v : V} (h : σ[i]? = some (some v)) : σ.set i (some v) = σ := by
  apply List.ext_getElem?
  intro m
  rw [List.getElem?_set]
  split
  · rename_i q
    subst q
    rw [if_pos (List.getElem?_eq_some_iff.mp h).1, h]
  · rfl
theorem kn_frzY {α : Type} {r : Rep α} {xs : List α} {a : Addr} {i j : Nat} {P : L2.St → Hp → Prop} (hi : Γ[i]? = some (some (zAt a))) (hj : Θ[j]? = some (cY a r xs)) (k : Kn fr (Γ.set i (some (iz (yL r) xs))) (Θ.eraseIdx j) P) : Kn fr Γ Θ P := fun σ F H ok env => by
  obtain ⟨v, h1, h2⟩ := env.get hi
  have h2 : v = .ref a := h2
  subst h2
  obtain ⟨h0, ⟨o, h3, ⟨⟨vs, rfl, h5⟩, h6⟩⟩, _⟩ := ok.ce _ (List.mem_of_getElem? hj)
  have h3 : H a = some (.lst vs) := h3
  have ok2 := ok.frz hj rfl h3
  have s2 : Same F (upd F a (.lst vs)) := same_upd h0
  have := (env.mono s2).set (i := i) (p := iz (yL r) xs) (v := .ref a) ⟨⟨a, vs, rfl, upd_same, Paired.imp2 (fun _ _ h => r.mono s2 h) h5⟩, h6⟩
  rw [set_same h1] at this
  exact k σ _ H ok2 this
theorem rt_frzY {α : Type} {r : Rep α} {xs : List α} {a : Addr} {j : Nat} {rt : VK} (hj : Θ[j]? = some (cY a r xs)) (k : Rt fr (Θ.eraseIdx j) rt (iz (yL r) xs)) : Rt fr Θ rt (zAt a) := fun v F H ok hp => by
  have hp : v = .ref a := hp
  subst hp
  obtain ⟨h0, ⟨o, h3, ⟨⟨vs, rfl, h5⟩, h6⟩⟩, _⟩ := ok.ce _ (List.mem_of_getElem? hj)
  have h3 : H a = some (.lst vs) := h3
  have ok2 := ok.frz hj rfl h3
  exact k _ _ H ok2 ⟨⟨a, vs, rfl, upd_same, Paired.imp2 (fun _ _ h => r.mono (same_upd h0) h) h5⟩, h6⟩
theorem kn_augI {f : Int → Int → Int} {i : Nat} {te : TE} {D : Ends} {m : Int} (hi : Γ[i]? = some (some (iz zI m))) (w : We fr Γ Θ te fun p Θ1 => ∃ n, p = iz zI n ∧ Kn fr (Γ.set i (some (iz zI (f m n)))) Θ1 D.nx) : Kn fr Γ Θ (tAug i te (ipI f) D) := fun σ F H ok env => by
  obtain ⟨v, h1, h2⟩ := env.get hi
  have h2 : v = .int m := h2
  subst h2
  refine ⟨_, h1, w σ F H ok env _ fun p Θ1 ⟨n, e, k⟩ y F1 H1 s1 ok1 hp => ?_⟩
  subst e
  exact ⟨m, n, rfl, hp, k _ F1 H1 ok1 ((env.mono s1).set rfl)⟩
theorem kn_par {i j : Nat} {ta : TA} {D : Ends} (w : Wa fr Γ Θ ta fun ps Θ1 => ∃ p q, ps = [p, q] ∧ Kn fr ((Γ.set i (some p)).set j (some q)) Θ1 D.nx) : Kn fr Γ Θ (tPar i j ta D) := fun σ F H ok env =>
  w σ F H ok env _ fun ps Θ1 ⟨p, q, e, k⟩ vs F1 H1 s1 ok1 hps => by
    subst e
    cases hps with
    | cons h1 hp => cases hp with
      | cons h2 hp => cases hp with
        | nil => exact ⟨_, _, rfl, k _ F1 H1 ok1 (((env.mono s1).set h1).set h2)⟩
theorem kn_fall {rt : VK} (k : Rt fr Θ rt (iz yN ())) : Kn fr Γ Θ (fun _ H' => rt .non H') := fun σ F H ok env => k .non F H ok rfl
/-! plans -/
end
end L2

set_option Elab.async false
set_option linter.all false
set_option maxRecDepth 100000
set_option maxHeartbeats 4000000
/-! Promises of defs by what they compute; plans; equality; draws. -/
namespace L2
open PySem PySem.Spec PyProof.Rows PySem.HErr
def preW {α β : Type} (ef : HE → Er) (args : α → List Vp) (r : Rep β) (m : α → DM β) : Pre := fun ps out err => ∃ x Q X, ps = args x ∧ m x Q X ∧ out = (fun p => ∃ y, Q y ∧ p = iz r y) ∧ err = fun e => ∃ z, X z ∧ e = ef z
def preBW {α β : Type} (args : α → List Vp) (r : Rep β) (m : α → DM β) : PreB := fun qs o => ∃ x Q, qs = args x ∧ m x Q noX ∧ o = fun p => ∃ y, Q y ∧ p = iz r y
def RetW {β : Type} (fr : Fr) (Qv : VK) (r : Rep β) (Q : β → Prop) : Prop := ∀ y, Q y → ∀ Θ, Rt fr Θ Qv (iz r y)
def RetBW {β : Type} (fr : Fr) (b l : Addr) (Qv : VK) (r : Rep β) (Q : β → Prop) : Prop := ∀ y, Q y → ∀ Θ, cBox true b l ∈ Θ → Rt fr Θ Qv (iz r y)
def RseW (fr : Fr) (E : XK) (ef : HE → Er) (X : HE → Prop) : Prop := ∀ z, X z → ∀ Γ Θ, Kr fr Γ Θ (fun cls d _ H => E cls d H) (ef z)
section
variable {fr fr' : Fr} {Γ Γ' : Gam} {Θ Θ' : List Cel} {F F' H H' : Hp} {K : Vp → List Cel → Prop} {Qv : VK}
theorem RetW.fine {β : Type} {r : Rep β} {Q : β → Prop} (h : RetW fr Qv r Q) (l : FrLe fr fr') : RetW fr' Qv r Q := fun y hy Θ => (h y hy Θ).fine l
theorem RetBW.fine {β : Type} {b l : Addr} {r : Rep β} {Q : β → Prop} (h : RetBW fr b l Qv r Q) (le : FrLe fr fr') : RetBW fr' b l Qv r Q := fun y hy Θ hc => (h y hy Θ hc).fine le
theorem RseW.fine {E : XK} {ef : HE → Er} {X : HE → Prop} (h : RseW fr E ef X) (l : FrLe fr fr') : RseW fr' E ef X := fun z hz Γ Θ σ F H ok env d us hd hf => h z hz Γ Θ σ F H (ok.le l) env d us hd hf
theorem sps_W {α β : Type} {ef : HE → Er} {args : α → List Vp} {r : Rep β} {m : α → DM β} {E : L2.St → XK} {ps : List Vp} {Q : β → Prop} {X : HE → Prop} (x : α) (h : m x Q X) (k : ∀ y, Q y → K (iz r y) Θ) (xx : ∀ z, X z → Kr fr Γ Θ (fun cls d σ H => E σ cls d H) (ef z)) (e : ps = args x := by rfl) : Sps fr Γ Θ (spA (preW ef args r m)) E ps K :=
  sps_A ⟨x, Q, X, e, h, rfl, rfl⟩ (fun p ⟨y, hy, e⟩ => by rw [e]; exact k y hy) fun er ⟨z, hz, e⟩ => by rw [e]; exact xx z hz
/-- nothing is raised -/
theorem sps_W0 {α β : Type} {ef : HE → Er} {args : α → List Vp} {r : Rep β} {m : α → DM β} {E : L2.St → XK} {ps : List Vp} {Q : β → Prop} (x : α) (h : m x Q noX) (k : ∀ y, Q y → K (iz r y) Θ) (e : ps = args x := by rfl) : Sps fr Γ Θ (spA (preW ef args r m)) E ps K := sps_W x h k (fun z hz => hz.elim) e
/-- what is raised leaves the def -/
theorem sps_WE {α β : Type} {ef : HE → Er} {args : α → List Vp} {r : Rep β} {m : α → DM β} {E : XK} {ps : List Vp} {Q : β → Prop} {X : HE → Prop} (hx : RseW fr E ef X) (x : α) (h : m x Q X) (k : ∀ y, Q y → K (iz r y) Θ) (e : ps = args x := by rfl) : Sps fr Γ Θ (spA (preW ef args r m)) (fun _ => E) ps K := sps_W x h k (fun z hz => hx z hz Γ Θ) e
theorem sps_BW {α β : Type} {args : α → List Vp} {r : Rep β} {m : α → DM β} {E : L2.St → XK} {ps : List Vp} {Q : β → Prop} {b l : Addr} {j : Nat} (hj : Θ[j]? = some (cBox true b l)) (x : α) (h : m x Q noX) (k : ∀ y, Q y → K (iz r y) Θ) (e : ps = zAt b :: args x := by rfl) : Sps fr Γ Θ (spC (preB (preBW args r m))) E ps K := by
  subst e
  exact sps_B (List.mem_of_getElem? hj) ⟨x, Q, rfl, h, rfl⟩ fun p ⟨y, hy, e⟩ => by rw [e]; exact k y hy
def drawD (m : Int) (k : Int → Prop) : Prop := 0 < m ∧ m ≤ 10 ^ 40 ∧ ∀ n, 0 ≤ n → n < m → k n
theorem sps_draw {E : L2.St → XK} {b l : Addr} {own : Bool} {m : Int} {j : Nat} {k : Int → Prop} (hj : Θ[j]? = some (cBox own b l)) (h : drawD m k) (kk : ∀ n, k n → K (iz zI n) Θ) : Sps fr Γ Θ spNext E [zAt b, iz zI m] K := sps_next (List.mem_of_getElem? hj) h.1 h.2.1 fun n h0 h1 => kk n (h.2.2 n h0 h1)
/-! a plan's fields -/
section
variable {Kf : PySem.W.Frag} {mg : Str → Option Value} {C : Addr} {d : PlanD}
theorem FldR.conv {f : Str} {p q q' : Vp} (h : FldR Kf f p q) (hq : ∀ F v u, p.p F v → q.p F u → q'.p F u) : FldR Kf f p q' := fun F v hp => by
  obtain ⟨a, C, dx, fs, u, h1, h2, h3, h4, h5, h6⟩ := h F v hp
  exact ⟨a, C, dx, fs, u, h1, h2, h3, h4, h5, hq F v u hp h6⟩
theorem wd_big {z : Str} (h : Wd z) : z.length ≤ big := Nat.le_trans h.len (by decide)
theorem fy_places (T : PlanC Kf mg C) : FldP fr Θ Kf "places" (iz (zPlan C) d) (iz (yT yS) d.places) := ((fld_places T.k).conv fun F v u hp hq => le_TT (Nat.le_trans (plan_ok hp).p12 (by decide)) (s := yS) (fun F v x hx h => ⟨h, wd_big ((plan_ok hp).pa x hx)⟩) F u hq).p
theorem fy_begin (T : PlanC Kf mg C) : FldP fr Θ Kf "begin" (iz (zPlan C) d) (iz (yT zI) d.begin) := ((fld_begin T.k).conv fun F v u hp hq => le_TT (Nat.le_trans (Nat.le_of_eq (plan_ok hp).bl) (Nat.le_trans (plan_ok hp).p12 (by decide))) (fun F v x hx h => h) F u hq).p
theorem PlanOk.nl (h : PlanOk d) : d.names.length ≤ 16 := by unfold PlanD.names; rw [List.length_map]; exact h.s16
theorem PlanOk.nw (h : PlanOk d) {z : Str} (hz : z ∈ d.names) : Wd z := by
  obtain ⟨r, hr, rfl⟩ := List.mem_map.mp hz
  exact (h.st r hr).1
theorem fy_steps (T : PlanC Kf mg C) : FldP fr Θ Kf "steps" (iz (zPlan C) d) (iz (yT yS) d.names) := ((fld_steps T.k).conv fun F v u hp hq => le_TT (Nat.le_trans (plan_ok hp).nl (by decide)) (s := yS) (fun F v x hx h => ⟨h, wd_big ((plan_ok hp).nw hx)⟩) F u hq).p
theorem KVs.imp {α : Type} {r s : Rep α} {kvs : List (Key × V)} {rows : List (Str × α)} (h : KVs r F kvs rows) (f : ∀ v x, x ∈ rows → r.p F v x.2 → s.p F v x.2) : KVs s F kvs rows := by
  have : ∀ {kvs : List (Key × V)} {rows : List (Str × α)}, KVs r F kvs rows → (∀ v x, x ∈ rows → r.p F v x.2 → s.p F v x.2) → KVs s F kvs rows := by
    intro kvs rows h
    induction h with
    | nil => intro _; exact .nil
    | cons a _ ih => intro f; exact .cons ⟨a.1, f _ _ (List.mem_cons_self ..) a.2⟩ (ih fun v x hx => f v x (List.mem_cons_of_mem _ hx))
  exact this h f
theorem PlanOk.tl (h : PlanOk d) {r : SRow} (hr : r ∈ d.steps) : r.2.1.length ≤ 12 ∧ r.2.2.length ≤ 12 := by
  obtain ⟨_, _, h1, h2⟩ := h.st r hr
  have a1 := List.length_filter_le (fun p => decide (p ∈ r.2.1)) d.places
  have a2 := List.length_filter_le (fun p => decide (p ∈ r.2.2)) d.places
  have e1 : (d.places.filter fun p => decide (p ∈ r.2.1)) = r.2.1 := h1
  have e2 : (d.places.filter fun p => decide (p ∈ r.2.2)) = r.2.2 := h2
  rw [e1] at a1
  rw [e2] at a2
  have := h.p12
  exact ⟨by omega, by omega⟩
theorem fy_taken (T : PlanC Kf mg C) : FldP fr Θ Kf "taken" (iz (zPlan C) d) (iz (yD (yT yS)) d.tk) := ((fld_taken T.k).conv fun F v u hp hq => by
  have pk := plan_ok hp
  obtain ⟨a, kvs, h1, h2, h3⟩ := hq
  refine ⟨⟨a, kvs, h1, h2, h3.imp fun v x hx h => ?_⟩, by unfold PlanD.tk; rw [List.length_map]; exact Nat.le_trans pk.s16 (by decide)⟩
  obtain ⟨r, hr, rfl⟩ := List.mem_map.mp hx
  exact le_TT (Nat.le_trans (pk.tl hr).1 (by decide)) (s := yS) (fun F v x hx h => ⟨h, wd_big (pk.pa x (pk.tk hr hx))⟩) F v h).p
theorem fy_given (T : PlanC Kf mg C) : FldP fr Θ Kf "given" (iz (zPlan C) d) (iz (yD (yT yS)) d.gv) := ((fld_given T.k).conv fun F v u hp hq => by
  have pk := plan_ok hp
  obtain ⟨a, kvs, h1, h2, h3⟩ := hq
  refine ⟨⟨a, kvs, h1, h2, h3.imp fun v x hx h => ?_⟩, by unfold PlanD.gv; rw [List.length_map]; exact Nat.le_trans pk.s16 (by decide)⟩
  obtain ⟨r, hr, rfl⟩ := List.mem_map.mp hx
  exact le_TT (Nat.le_trans (pk.tl hr).2 (by decide)) (s := yS) (fun F v x hx h => ⟨h, wd_big (pk.pa x (pk.gv hr hx))⟩) F v h).p
end
/-! dicts with words as keys -/
def DicY {α : Type} (fr : Fr) (Θ : List Cel) (p : Vp) (r : Rep α) (rows : List (Str × α)) : Prop := DicP fr Θ p r rows ∧ ∀ F H v, OkF fr Θ F H → p.p F v → rows.length ≤ big
theorem dy_D {α : Type} {r : Rep α} {rows : List (Str × α)} : DicY fr Θ (iz (yD r) rows) r rows := ⟨fun F H v ok h => dic_D F H v ok h.1, fun _ _ _ _ h => h.2⟩
theorem dy_C {α : Type} {r : Rep α} {rows : List (Str × α)} {a : Addr} {j : Nat} (hj : Θ[j]? = some (cYD a r rows)) : DicY fr Θ (zAt a) r rows := ⟨fun F H v ok hv => by
  obtain ⟨_, ⟨o, h2, ⟨⟨kvs, rfl, h4⟩, h5⟩⟩, _⟩ := ok.ce _ (List.mem_of_getElem? hj)
  exact ⟨a, kvs, hv, h2, h4⟩, fun F H v ok hv => by
  obtain ⟨_, ⟨o, h2, ⟨⟨kvs, rfl, h4⟩, h5⟩⟩, _⟩ := ok.ce _ (List.mem_of_getElem? hj)
  exact h5⟩
theorem wy_dget {td ty : TE} (w : We fr Γ Θ td fun p Θ1 => We fr Γ Θ1 ty fun q Θ2 => ∃ (α : Type) (r : Rep α) (rows : List (Str × α)) (n : Str) (x : α), DicY fr Θ2 p r rows ∧ q = iz yS n ∧ getR rows n = some x ∧ K (iz r x) Θ2) : We fr Γ Θ (tDGet td ty) K := we_dget (w.imp fun p Θ1 w1 => We.conv (w1.imp fun q Θ2 ⟨α, r, rows, n, x, h1, h2, h3, h4⟩ => ⟨iz zS n, by rw [h2]; exact le_zS, α, r, rows, n, x, h1.1, rfl, h3, h4⟩))
theorem wy_din {td ty : TE} (w : We fr Γ Θ ty fun q Θ1 => We fr Γ Θ1 td fun p Θ2 => ∃ (α : Type) (r : Rep α) (rows : List (Str × α)) (n : Str), DicY fr Θ2 p r rows ∧ q = iz yS n ∧ K (iz zB (getR rows n).isSome) Θ2) : We fr Γ Θ (tDIn ty td) K := fun σ F H ok env Q q =>
  w σ F H ok env _ fun p Θ1 k v F1 H1 s1 ok1 hp => k σ F1 H1 ok1 (env.mono s1) _ fun p2 Θ2 ⟨α, r, rows, n, hd, e, kk⟩ v2 F2 H2 s2 ok2 hp2 => by
    subst e
    obtain ⟨a, kvs, h1, h2, h3⟩ := hd.1 F2 H2 v2 ok2 hp2
    refine ⟨a, _, h1, .inl ⟨kvs, Sum.inr n, .inl h2, hp.1.1, rfl⟩, q _ _ kk _ F2 H2 (s1.trans s2) ok2 ?_⟩
    show _ = V.bl _
    rw [opt_some h3]
theorem wy_dnin {td ty : TE} (w : We fr Γ Θ ty fun q Θ1 => We fr Γ Θ1 td fun p Θ2 => ∃ (α : Type) (r : Rep α) (rows : List (Str × α)) (n : Str), DicY fr Θ2 p r rows ∧ q = iz yS n ∧ K (iz zB (!(getR rows n).isSome)) Θ2) : We fr Γ Θ (tDNotIn ty td) K := fun σ F H ok env Q q =>
  w σ F H ok env _ fun p Θ1 k v F1 H1 s1 ok1 hp => k σ F1 H1 ok1 (env.mono s1) _ fun p2 Θ2 ⟨α, r, rows, n, hd, e, kk⟩ v2 F2 H2 s2 ok2 hp2 => by
    subst e
    obtain ⟨a, kvs, h1, h2, h3⟩ := hd.1 F2 H2 v2 ok2 hp2
    refine ⟨a, _, h1, .inl ⟨kvs, Sum.inr n, .inl h2, hp.1.1, rfl⟩, q _ _ kk _ F2 H2 (s1.trans s2) ok2 ?_⟩
    show _ = V.bl _
    rw [opt_some h3]
theorem wy_dnew {α : Type} (r : Rep α) (k : ∀ a, K (zAt a) (cYD a r [] :: Θ)) : We fr Γ Θ tDNewK K := fun σ F H ok env Q q a na => q _ _ (k a) _ F _ (Same.refl F) (ok.mkOwn (c := cYD a r []) na rfl ⟨⟨[], rfl, .nil⟩, Nat.zero_le _⟩) rfl
theorem putR_len {α : Type} (rows : List (Str × α)) (n : Str) (x : α) : (putR rows n x).length ≤ rows.length + 1 := by
  unfold putR
  split
  · rw [List.length_map]; omega
  · rw [List.length_append]; exact Nat.le_refl _
theorem ky_dput {td ty tv : TE} {D : Ends} (w : We fr Γ Θ tv fun p Θ1 => We fr Γ Θ1 td fun pd Θ2 => We fr Γ Θ2 ty fun q Θ3 => ∃ (α : Type) (r : Rep α) (rows : List (Str × α)) (n : Str) (x : α) (a : Addr) (j : Nat), p = iz r x ∧ pd = zAt a ∧ q = iz yS n ∧ Θ3[j]? = some (cYD a r rows) ∧ rows.length < big ∧ Kn fr Γ (Θ3.set j (cYD a r (putR rows n x))) D.nx) : Kn fr Γ Θ (sDPut td ty tv D) := fun σ F H ok env =>
  w σ F H ok env _ fun p Θ1 k v F1 H1 s1 ok1 hp => k σ F1 H1 ok1 (env.mono s1) _ fun p2 Θ2 k2 v2 F2 H2 s2 ok2 hp2 => k2 σ F2 H2 ok2 ((env.mono s1).mono s2) _ fun p3 Θ3 ⟨α, r, rows, n, x, a, j, e1, e2, e3, hj, hl, kk⟩ v3 F3 H3 s3 ok3 hp3 => by
    subst e1 e2 e3
    obtain ⟨_, ⟨o, h2, ⟨⟨kvs, rfl, h4⟩, h5⟩⟩, _⟩ := ok3.ce _ (List.mem_of_getElem? hj)
    refine ⟨a, _, hp2, .inl ⟨kvs, Sum.inr n, h2, hp3.1.1, by rw [Paired.len h4]; exact big_lt h5, rfl⟩, ?_⟩
    exact kk σ F3 _ (ok3.mut hj rfl rfl ⟨⟨_, rfl, h4.put (r.mono (s2.trans s3) hp)⟩, Nat.le_trans (putR_len rows n x) hl⟩) (((env.mono s1).mono s2).mono s3)
/-! raise -/
theorem kn_raiseY {tm : Bool} {C : Addr} {fs : List Str} {W : WX} {ta : TA} {D : Ends} (w : Wa fr Γ Θ ta fun ps Θ1 => ps.length = fs.length ∧ (tm = true → ∃ z r, ps = iz yS z :: r ∧ z.length ≤ 1000) ∧ Kr fr Γ Θ1 W ⟨C, (fs.zip ps).reverse⟩) : Kn fr Γ Θ (tRaiseE tm C fs W ta D) := fun σ F H ok env =>
  w σ F H ok env _ fun ps Θ1 ⟨hl, ht, k⟩ vs F1 H1 s1 ok1 hps => by
    refine ⟨by rw [← Paired.len hps]; exact hl, fun h => ?_, fun d nd => ?_⟩
    · obtain ⟨z, r, e, hz⟩ := ht h
      subst e
      cases hps with
      | cons a b => exact ⟨z, _, by rw [a.1.1], hz⟩
    · have s2 := ok1.sameF (o := .xd (fs.zip vs).reverse) nd
      exact k σ _ _ (ok1.new nd) ((env.mono s1).mono s2) d _ upd_same (Paired.rev (zip_ok (fs := fs) (ps_mono s2 hps)))
def erW (cs : EK → Addr) : HE → Er
  | .tooMany k l => ⟨cs .tooMany, [("limit", iz zI l), ("kind", iz yS k)]⟩
  | .badWord w => ⟨cs .badWord, [("word", iz yS w)]⟩
  | .double n => ⟨cs .double, [("name", iz yS n)]⟩
  | .badNumber n => ⟨cs .badNumber, [("number", iz zI n)]⟩
  | .empty n => ⟨cs .empty, [("name", iz yS n)]⟩
  | .unknown n => ⟨cs .unknown, [("name", iz yS n)]⟩
  | .inUse n => ⟨cs .inUse, [("name", iz yS n)]⟩
  | .badState ns => ⟨cs .badState, [("numbers", iz (yT zI) ns)]⟩
  | .notReady s p i => ⟨cs .notReady, [("at", iz zI i), ("place", iz yS p), ("step", iz yS s)]⟩
  | .notSound d => ⟨cs .notSound, [("paper", iz yX d)]⟩
  | .badPair n => ⟨cs .badPair, [("name", iz yS n)]⟩
  | .badText n => ⟨cs .badText, [("line_number", iz zI n)]⟩
  | .noUndo => ⟨cs .noUndo, []⟩
/-! equality -/
instance : Dat yS := ⟨PyData.str, 0, fun h => Dat.dp (r := zS) h.1, fun h => Dat.ok (r := zS) h.1, fun x => Dat.dl (r := zS) x, fun h => Dat.inj (r := zS) h⟩
instance {α : Type} {r : Rep α} [d : Dat r] : Dat (yL r) := ⟨Dat.enc (zL r), Dat.dep (zL r), fun h => Dat.dp (r := zL r) h.1, fun h => Dat.ok (r := zL r) h.1, fun x => Dat.dl (r := zL r) x, fun h => Dat.inj (r := zL r) h⟩
instance {α : Type} {r : Rep α} [d : Dat r] : Dat (yT r) := ⟨Dat.enc (zT r), Dat.dep (zT r), fun h => Dat.dp (r := zT r) h.1, fun h => Dat.ok (r := zT r) h.1, fun x => Dat.dl (r := zT r) x, fun h => Dat.inj (r := zT r) h⟩
end
/-! defs -/
section
variable {P : Program} {w : World} {K : PySem.W.Frag} {mg : Str → Option Value} {base : Heap} {x m qual : Str} {C : Addr} {st : Stmt} {N ps : List Str} {k : Nat} {α β : Type} {ef : HE → Er} {args : α → List Vp} {r : Rep β} {md : α → DM β}
theorem Src.okW (F : Src K mg x st ps) (S : FnScope N ps (defScope st)) (len : ∀ x, (args x).length = ps.length)
    (hbody : ∀ (f : Addr) (cdv : Value) (A : Around) (outer : List Env) (s : Shared) (H : Hp) (E : XK) (a : α) (Q : β → Prop) (X : HE → Prop), Room k (A.deeper (envOfC x (defScope st) s.heap.objs.size f cdv)) → md a Q X →
      ∃ t, PSs (cxOf CX0 P w K mg base N x (defScope st) f cdv A outer s H E).nox (defBody st) t ∧ ∀ fr Qv, RetW fr Qv r Q → Kn fr (envOf N (args a)) [] (t { nx := fun _ H' => Qv .non H', rt := Qv })) : Def P w K mg base CX0 (k + 1) x ps (spA (preW ef args r md)) :=
  F.okA S (fun qs out err ⟨a, Q, X, e, _⟩ => by rw [e]; exact len a) fun f cdv A outer s H E qs out err hr ⟨a, Q, X, e1, h, e2, e3⟩ => by
    subst e1 e2 e3
    obtain ⟨t, ht, hk⟩ := hbody f cdv A outer s H E a Q X hr h
    exact ⟨t, ht, fun fr Qv hret => hk fr Qv fun y hy Θ => hret _ ⟨y, hy, rfl⟩ Θ⟩
theorem Src.okWX (F : Src K mg x st ps) (S : FnScope N ps (defScope st)) (len : ∀ x, (args x).length = ps.length)
    (hbody : ∀ (f : Addr) (cdv : Value) (A : Around) (outer : List Env) (s : Shared) (H : Hp) (E : XK) (a : α) (Q : β → Prop) (X : HE → Prop), Room k (A.deeper (envOfC x (defScope st) s.heap.objs.size f cdv)) → md a Q X →
      ∃ t, PSs (cxOf (L2.CX P w) P w K mg base N x (defScope st) f cdv A outer s H E) (defBody st) t ∧ ∀ fr Qv, RetW fr Qv r Q → RseW fr E ef X → Kn fr (envOf N (args a)) [] (t { nx := fun _ H' => Qv .non H', rt := Qv })) : Def P w K mg base (L2.CX P w) (k + 1) x ps (spA (preW ef args r md)) :=
  F.okAX S (fun qs out err ⟨a, Q, X, e, _⟩ => by rw [e]; exact len a) fun f cdv A outer s H E qs out err hr ⟨a, Q, X, e1, h, e2, e3⟩ => by
    subst e1 e2 e3
    obtain ⟨t, ht, hk⟩ := hbody f cdv A outer s H E a Q X hr h
    exact ⟨t, ht, fun fr Qv hret hrse => hk fr Qv (fun y hy Θ => hret _ ⟨y, hy, rfl⟩ Θ) fun z hz Γ Θ => kr_E hrse ⟨z, hz, rfl⟩⟩
theorem Src.okBW (F : Src K mg x st ps) (S : FnScope N ps (defScope st)) (len : ∀ x, (args x).length + 1 = ps.length)
    (hbody : ∀ (f : Addr) (cdv : Value) (A : Around) (outer : List Env) (s : Shared) (H : Hp) (E : XK) (b l : Addr) (a : α) (Q : β → Prop), Room k (A.deeper (envOfC x (defScope st) s.heap.objs.size f cdv)) → md a Q noX →
      ∃ t, PSs (cxOf CX0 P w K mg base N x (defScope st) f cdv A outer s H E).nox (defBody st) t ∧ ∀ fr Qv, RetBW fr b l Qv r Q → Kn fr (envOf N (zAt b :: args a)) [cBox true b l] (t { nx := fun _ H' => Qv .non H', rt := Qv })) : Def P w K mg base CX0 (k + 1) x ps (spC (preB (preBW args r md))) :=
  F.okB S (fun qs o ⟨a, Q, e, _⟩ => by rw [e]; exact len a) fun f cdv A outer s H E b l qs o hr ⟨a, Q, e1, h, e2⟩ => by
    subst e1 e2
    obtain ⟨t, ht, hk⟩ := hbody f cdv A outer s H E b l a Q hr h
    exact ⟨t, ht, fun fr Qv hret => hk fr Qv fun y hy Θ hc => hret _ ⟨y, hy, rfl⟩ Θ hc⟩
theorem SrcM.okW (F : SrcM K C m qual st ps) (S : FnScope N ps (defScope st)) (len : ∀ x, (args x).length = ps.length)
    (hbody : ∀ (f : Addr) (cdv : Value) (A : Around) (outer : List Env) (s : Shared) (H : Hp) (E : XK) (a : α) (Q : β → Prop) (X : HE → Prop), Room k (A.deeper (envOfC qual (defScope st) s.heap.objs.size f cdv)) → md a Q X →
      ∃ t, PSs (cxOf CX0 P w K mg base N qual (defScope st) f cdv A outer s H E).nox (defBody st) t ∧ ∀ fr Qv, RetW fr Qv r Q → Kn fr (envOf N (args a)) [] (t { nx := fun _ H' => Qv .non H', rt := Qv })) : DefM P w K mg base CX0 (k + 1) C m ps (spA (preW ef args r md)) :=
  F.okA S (fun qs out err ⟨a, Q, X, e, _⟩ => by rw [e]; exact len a) fun f cdv A outer s H E qs out err hr ⟨a, Q, X, e1, h, e2, e3⟩ => by
    subst e1 e2 e3
    obtain ⟨t, ht, hk⟩ := hbody f cdv A outer s H E a Q X hr h
    exact ⟨t, ht, fun fr Qv hret => hk fr Qv fun y hy Θ => hret _ ⟨y, hy, rfl⟩ Θ⟩
theorem SrcM.okWX (F : SrcM K C m qual st ps) (S : FnScope N ps (defScope st)) (len : ∀ x, (args x).length = ps.length)
    (hbody : ∀ (f : Addr) (cdv : Value) (A : Around) (outer : List Env) (s : Shared) (H : Hp) (E : XK) (a : α) (Q : β → Prop) (X : HE → Prop), Room k (A.deeper (envOfC qual (defScope st) s.heap.objs.size f cdv)) → md a Q X →
      ∃ t, PSs (cxOf (L2.CX P w) P w K mg base N qual (defScope st) f cdv A outer s H E) (defBody st) t ∧ ∀ fr Qv, RetW fr Qv r Q → RseW fr E ef X → Kn fr (envOf N (args a)) [] (t { nx := fun _ H' => Qv .non H', rt := Qv })) : DefM P w K mg base (L2.CX P w) (k + 1) C m ps (spA (preW ef args r md)) :=
  F.okAX S (fun qs out err ⟨a, Q, X, e, _⟩ => by rw [e]; exact len a) fun f cdv A outer s H E qs out err hr ⟨a, Q, X, e1, h, e2, e3⟩ => by
    subst e1 e2 e3
    obtain ⟨t, ht, hk⟩ := hbody f cdv A outer s H E a Q X hr h
    exact ⟨t, ht, fun fr Qv hret hrse => hk fr Qv (fun y hy Θ => hret _ ⟨y, hy, rfl⟩ Θ) fun z hz Γ Θ => kr_E hrse ⟨z, hz, rfl⟩⟩
end
end L2

set_option Elab.async false
set_option linter.all false
set_option maxRecDepth 100000
set_option maxHeartbeats 4000000
/-! Further rules for the printed walks. -/
namespace L2
open PySem PySem.Spec PyProof.Rows PySem.HErr
def optD {α : Type} (o : Option α) (A : Prop) (B : α → Prop) : Prop := (o = none → A) ∧ ∀ y, o = some y → B y
section
variable {fr fr' : Fr} {Γ Γ' : Gam} {Θ Θ' : List Cel} {F F' H H' : Hp} {K : Vp → List Cel → Prop} {Qv : VK}
theorem wt_andP {K : Bool → List Cel → Prop} {t u : TT} (w : Wt fr Γ Θ t fun b Θ1 => ∃ c, (b = true → Et fr Γ Θ1 u c) ∧ K (b && c) Θ1) : Wt fr Γ Θ (tAnd t u) K :=
  wt_andC fun σ F H ok env Q q => w σ F H ok env Q fun b Θ1 ⟨c, h1, k⟩ => q b Θ1 ⟨fun e σ F H ok env Q q => h1 e σ F H ok env Q fun c' Θ' ⟨e1, e2⟩ => q c' Θ' (by
    subst e1 e2 e
    exact k), fun e => by
    subst e
    exact k⟩
theorem wt_orP {K : Bool → List Cel → Prop} {t u : TT} (w : Wt fr Γ Θ t fun b Θ1 => ∃ c, (b = false → Et fr Γ Θ1 u c) ∧ K (b || c) Θ1) : Wt fr Γ Θ (tOr t u) K :=
  wt_orC fun σ F H ok env Q q => w σ F H ok env Q fun b Θ1 ⟨c, h1, k⟩ => q b Θ1 ⟨fun e σ F H ok env Q q => h1 e σ F H ok env Q fun c' Θ' ⟨e1, e2⟩ => q c' Θ' (by
    subst e1 e2 e
    exact k), fun e => by
    subst e
    exact k⟩
theorem we_andP {t u : TE} (w : We fr Γ Θ t fun p Θ1 => ∃ b c, p = iz zB b ∧ (b = true → Ev fr Γ Θ1 u (iz zB c)) ∧ K (iz zB (b && c)) Θ1) : We fr Γ Θ (tAndV t u) K :=
  we_andC (w.imp fun p Θ1 ⟨b, c, e, h1, k⟩ => ⟨b, e, fun e => (h1 e).imp fun p Θ' ⟨e1, e2⟩ => by
    subst e1 e2 e
    exact k, fun e => by
    subst e
    exact k⟩)
theorem we_orP {t u : TE} (w : We fr Γ Θ t fun p Θ1 => ∃ b c, p = iz zB b ∧ (b = false → Ev fr Γ Θ1 u (iz zB c)) ∧ K (iz zB (b || c)) Θ1) : We fr Γ Θ (tOrV t u) K :=
  we_orC (w.imp fun p Θ1 ⟨b, c, e, h1, k⟩ => ⟨b, e, fun e => (h1 e).imp fun p Θ' ⟨e1, e2⟩ => by
    subst e1 e2 e
    exact k, fun e => by
    subst e
    exact k⟩)
theorem we_ifP {α : Type} {r : Rep α} {c : TT} {ta tb : TE} (w : Wt fr Γ Θ c fun b Θ1 => ∃ x y, (b = true → Ev fr Γ Θ1 ta (iz r x)) ∧ (b = false → Ev fr Γ Θ1 tb (iz r y)) ∧ K (iz r (bif b then x else y)) Θ1) : We fr Γ Θ (tIf c ta tb) K :=
  we_if fun σ F H ok env Q q => w σ F H ok env Q fun b Θ1 ⟨x, y, h1, h2, k⟩ => q b Θ1 ⟨fun e => (h1 e).imp fun p Θ' ⟨e1, e2⟩ => by
    subst e1 e2 e
    exact k, fun e => (h2 e).imp fun p Θ' ⟨e1, e2⟩ => by
    subst e1 e2 e
    exact k⟩
instance : NotNon yS := ⟨fun F v x h => by rw [h.1.1]; exact fun q => by cases q⟩
instance {α : Type} {r : Rep α} : NotNon (yL r) := ⟨fun F v x h => NotNon.nn (r := zL r) F v x h.1⟩
instance {α : Type} {r : Rep α} : NotNon (yT r) := ⟨fun F v x h => NotNon.nn (r := zT r) F v x h.1⟩
instance {α : Type} {r : Rep α} : NotNon (yD r) := ⟨fun F v x ⟨⟨a, kvs, h, _⟩, _⟩ => by rw [h]; exact fun q => by cases q⟩
instance {α β : Type} {r : Rep α} {s : Rep β} : NotNon (zLp r s) := ⟨fun F v x ⟨a, u, w, h, _⟩ => by rw [h]; exact fun q => by cases q⟩
instance {α β γ δ : Type} {r : Rep α} {s : Rep β} {t : Rep γ} {u : Rep δ} : NotNon (z4 r s t u) := ⟨fun F v x ⟨a, v1, v2, v3, v4, h, _⟩ => by rw [h]; exact fun q => by cases q⟩
instance {C : Addr} : NotNon (zPlan C) := ⟨fun F v x ⟨a, h, _⟩ => by rw [h]; exact fun q => by cases q⟩
theorem oy_isO {α : Type} {r : Rep α} [NotNon r] {o : Option α} (k : K (iz zB o.isNone) Θ) : Ops fr Θ (fun x y H Q => y = .non ∧ Q (.bl (decide (x = .non))) H) (iz (yO r) o) (iz yN ()) K := fun F H v w ok hv hw Q q => by
  refine ⟨hw, q.go k ok ?_⟩
  show V.bl _ = V.bl _
  cases o with
  | none => rw [show v = .non from hv]; rfl
  | some x => rw [decide_eq_false (NotNon.nn F v x hv)]; rfl
theorem oy_notO {α : Type} {r : Rep α} [NotNon r] {o : Option α} (k : K (iz zB o.isSome) Θ) : Ops fr Θ (fun x y H Q => y = .non ∧ Q (.bl (!decide (x = .non))) H) (iz (yO r) o) (iz yN ()) K := fun F H v w ok hv hw Q q => by
  refine ⟨hw, q.go k ok ?_⟩
  show V.bl _ = V.bl _
  cases o with
  | none => rw [show v = .non from hv]; rfl
  | some x => rw [decide_eq_false (NotNon.nn F v x hv)]; rfl
theorem optK {α : Type} {o : Option α} {A : Prop} {B : α → Prop} {G1 G2 : Prop} (h : optD o A B) (h1 : o = none → A → G1) (h2 : ∀ y, o = some y → B y → G2) : (o.isNone = true → G1) ∧ (o.isNone = false → G2) := by
  cases o with
  | none => exact ⟨fun _ => h1 rfl (h.1 rfl), (fun e => by cases e)⟩
  | some y => exact ⟨(fun e => by cases e), fun _ => h2 y rfl (h.2 y rfl)⟩
theorem optKn {α : Type} {o : Option α} {A : Prop} {B : α → Prop} {G1 G2 : Prop} (h : optD o A B) (h1 : o = none → A → G1) (h2 : ∀ y, o = some y → B y → G2) : (o.isSome = true → G2) ∧ (o.isSome = false → G1) := by
  cases o with
  | none => exact ⟨(fun e => by cases e), fun _ => h1 rfl (h.1 rfl)⟩
  | some y => exact ⟨fun _ => h2 y rfl (h.2 y rfl), (fun e => by cases e)⟩
/-! truth -/
theorem ty_L' {Kf : PySem.W.Frag} {α : Type} {r : Rep α} {xs : List α} : TruP fr Θ Kf (iz (yL r) xs) (!xs.isEmpty) := fun F H v ok h => tru_L F H v ok h.1
theorem ty_T' {Kf : PySem.W.Frag} {α : Type} {r : Rep α} {xs : List α} : TruP fr Θ Kf (iz (yT r) xs) (!xs.isEmpty) := fun F H v ok h => tru_T F H v ok h.1
theorem ty_C' {Kf : PySem.W.Frag} {α : Type} {r : Rep α} {xs : List α} {a : Addr} {j : Nat} (hj : Θ[j]? = some (cY a r xs)) : TruP fr Θ Kf (zAt a) (!xs.isEmpty) := fun F H v ok hv => by
  have hv : v = .ref a := hv
  subst hv
  obtain ⟨_, ⟨o, h2, ⟨⟨vs, rfl, h4⟩, h5⟩⟩, _⟩ := ok.ce _ (List.mem_of_getElem? hj)
  exact .inl ⟨vs, SqL.of h2, by rw [emp_len h4]⟩
/-! lists of one form of data -/
theorem le_Os {α : Type} {r : Rep α} {x : α} : (iz r x).Le (iz (yO r) (some x)) := fun F v h => h
theorem le_On {α : Type} {r : Rep α} : (iz yN ()).Le (iz (yO r) none) := fun F v h => h
theorem kn_asgL {α : Type} {r : Rep α} {te : TE} {i : Nat} {D : Ends} (w : We fr Γ Θ te fun p Θ1 => ∃ v : α, p = iz r v ∧ ∀ v', v' = v → Kn fr (Γ.set i (some (iz r v'))) Θ1 D.nx) : Kn fr Γ Θ (tAsg te (gName i) D) := kn_asg (w.imp fun p Θ1 ⟨v, e, k⟩ => by
  subst e
  exact k v rfl)
theorem ty_yS {Kf : PySem.W.Frag} {n : Str} : TyP fr Θ Kf (iz yS n) (.type "str") := fun F H v ok h => ty_S F H v ok h.1
theorem ty_yL {Kf : PySem.W.Frag} {α : Type} {r : Rep α} {xs : List α} : TyP fr Θ Kf (iz (yL r) xs) (.type "list") := fun F H v ok h => ty_L F H v ok h.1
theorem ty_yT {Kf : PySem.W.Frag} {α : Type} {r : Rep α} {xs : List α} : TyP fr Θ Kf (iz (yT r) xs) (.type "tuple") := fun F H v ok h => ty_T F H v ok h.1
theorem intsF_big {n : Int} (h : n ≤ 100000) : (intsF 0 n.toNat).length ≤ big := by
  rw [intsF_len]
  have : big = 100000 := rfl
  omega
theorem intsF_big2 {m n : Int} (h : n - m ≤ 100000) : (intsF m (n - m).toNat).length ≤ big := by
  rw [intsF_len]
  have : big = 100000 := rfl
  omega
end
end L2

set_option Elab.async false
set_option linter.all false
set_option maxRecDepth 100000
set_option maxHeartbeats 4000000
/-! Data of any form. -/
namespace L2
open PySem PySem.Spec PyProof.Rows PySem.HErr
section
variable {fr fr' : Fr} {Γ Γ' : Gam} {Θ Θ' : List Cel} {F F' H H' : Hp} {K : Vp → List Cel → Prop} {Qv : VK}
theorem depth_mem {ds : List PyData} {d : PyData} {n : Nat} (h : PyData.depthAll ds ≤ n) (hd : d ∈ ds) : d.depth ≤ n := by
  induction ds with
  | nil => cases hd
  | cons a l ih =>
    simp only [PyData.depthAll] at h
    rcases List.mem_cons.mp hd with rfl | hd
    · omega
    · exact ih (by omega) hd
theorem xpAll_pvs : ∀ {ds : List PyData} {vs : List V}, xpAll F ds vs → (∀ d ∈ ds, d.depth ≤ 60) → PVs yX F vs ds
  | [], _, h, _ => by simp only [xpAll] at h; subst h; exact .nil
  | d :: ds, _, h, hd => by
    simp only [xpAll] at h
    obtain ⟨v, r, rfl, h2, h3⟩ := h
    exact .cons ⟨h2, hd d (List.mem_cons_self ..)⟩ (xpAll_pvs h3 fun x hx => hd x (List.mem_cons_of_mem _ hx))
class XDat {α : Type} (r : Rep α) where
  enc : α → PyData
  dep : Nat
  xd : ∀ {F : Hp} {v : V} {x : α}, r.p F v x → xp F (enc x) v ∧ (enc x).depth ≤ dep
theorem le_X {α : Type} {r : Rep α} [d : XDat r] {x : α} (h : d.dep ≤ 60 := by decide) : (iz r x).Le (iz yX (d.enc x)) := fun F v q => ⟨(d.xd q).1, Nat.le_trans (d.xd q).2 h⟩
instance : XDat yX := ⟨id, 60, fun h => h⟩
instance : XDat zI := ⟨PyData.int, 0, fun h => by simp only [xp, PyData.depth]; exact ⟨h, Nat.le_refl _⟩⟩
instance : XDat yN := ⟨fun _ => PyData.none, 0, fun h => by simp only [xp, PyData.depth]; exact ⟨h, Nat.le_refl _⟩⟩
instance : XDat yS := ⟨PyData.str, 0, fun h => by simp only [xp, PyData.depth]; exact ⟨⟨h.1.1, h.1.2, h.2⟩, Nat.le_refl _⟩⟩
theorem xd_all {α : Type} {r : Rep α} [d : XDat r] {vs : List V} {xs : List α} (h : PVs r F vs xs) : xpAll F (xs.map d.enc) vs ∧ PyData.depthAll (xs.map d.enc) ≤ d.dep := by
  induction h with
  | nil => exact ⟨by simp only [List.map_nil, xpAll], by simp only [List.map_nil, PyData.depthAll]; exact Nat.zero_le _⟩
  | cons a _ ih =>
    simp only [List.map_cons, xpAll, PyData.depthAll]
    have := (d.xd a).2
    have := ih.2
    exact ⟨⟨_, _, rfl, (d.xd a).1, ih.1⟩, by omega⟩
instance {α : Type} {r : Rep α} [d : XDat r] : XDat (yL r) := ⟨fun xs => .list (xs.map d.enc), d.dep + 1, fun ⟨⟨a, vs, h1, h2, h3⟩, h4⟩ => by
  have := (xd_all h3).2
  simp only [xp, PyData.depth]
  exact ⟨⟨a, vs, h1, h2, by rw [List.length_map]; exact h4, (xd_all h3).1⟩, by omega⟩⟩
instance {α : Type} {r : Rep α} [d : XDat r] : XDat (yT r) := ⟨fun xs => .tuple (xs.map d.enc), d.dep + 1, fun ⟨⟨a, vs, h1, h2, h3⟩, h4⟩ => by
  have := (xd_all h3).2
  simp only [xp, PyData.depth]
  exact ⟨⟨a, vs, h1, h2, by rw [List.length_map]; exact h4, (xd_all h3).1⟩, by omega⟩⟩
instance {α : Type} {r : Rep α} [d : XDat r] : XDat (z1 r) := ⟨fun x => .tuple [d.enc x], d.dep + 1, fun ⟨a, v1, h1, h2, h3⟩ => by
  have := (d.xd h3).2
  simp only [xp, xpAll, PyData.depth, PyData.depthAll]
  exact ⟨⟨a, _, h1, h2, by show 1 ≤ big; decide, _, _, rfl, (d.xd h3).1, rfl⟩, by omega⟩⟩
instance {α β : Type} {r : Rep α} {s : Rep β} [d : XDat r] [e : XDat s] : XDat (z2 r s) := ⟨fun x => .tuple [d.enc x.1, e.enc x.2], max d.dep e.dep + 1, fun ⟨a, u, w, h1, h2, h3, h4⟩ => by
  have := (d.xd h3).2
  have := (e.xd h4).2
  simp only [xp, xpAll, PyData.depth, PyData.depthAll]
  exact ⟨⟨a, _, h1, h2, by show 2 ≤ big; decide, _, _, rfl, (d.xd h3).1, _, _, rfl, (e.xd h4).1, rfl⟩, by omega⟩⟩
instance {α β γ : Type} {r : Rep α} {s : Rep β} {t : Rep γ} [d : XDat r] [e : XDat s] [f : XDat t] : XDat (z3 r s t) := ⟨fun x => .tuple [d.enc x.1, e.enc x.2.1, f.enc x.2.2], max d.dep (max e.dep f.dep) + 1, fun ⟨a, u, w, z, h1, h2, h3, h4, h5⟩ => by
  have := (d.xd h3).2
  have := (e.xd h4).2
  have := (f.xd h5).2
  simp only [xp, xpAll, PyData.depth, PyData.depthAll]
  exact ⟨⟨a, _, h1, h2, by show 3 ≤ big; decide, _, _, rfl, (d.xd h3).1, _, _, rfl, (e.xd h4).1, _, _, rfl, (f.xd h5).1, rfl⟩, by omega⟩⟩
instance {α β γ δ : Type} {r : Rep α} {s : Rep β} {t : Rep γ} {u : Rep δ} [d : XDat r] [e : XDat s] [f : XDat t] [g : XDat u] : XDat (z4 r s t u) := ⟨fun x => .tuple [d.enc x.1, e.enc x.2.1, f.enc x.2.2.1, g.enc x.2.2.2], max (max d.dep e.dep) (max f.dep g.dep) + 1, fun ⟨a, v1, v2, v3, v4, h1, h2, h3, h4, h5, h6⟩ => by
  have := (d.xd h3).2
  have := (e.xd h4).2
  have := (f.xd h5).2
  have := (g.xd h6).2
  simp only [xp, xpAll, PyData.depth, PyData.depthAll]
  exact ⟨⟨a, _, h1, h2, by show 4 ≤ big; decide, _, _, rfl, (d.xd h3).1, _, _, rfl, (e.xd h4).1, _, _, rfl, (f.xd h5).1, _, _, rfl, (g.xd h6).1, rfl⟩, by omega⟩⟩
instance {α β : Type} {r : Rep α} {s : Rep β} [d : XDat r] [e : XDat s] : XDat (zLp r s) := ⟨fun x => .list [d.enc x.1, e.enc x.2], max d.dep e.dep + 1, fun ⟨a, u, w, h1, h2, h3, h4⟩ => by
  have := (d.xd h3).2
  have := (e.xd h4).2
  simp only [xp, xpAll, PyData.depth, PyData.depthAll]
  exact ⟨⟨a, _, h1, h2, by show 2 ≤ big; decide, _, _, rfl, (d.xd h3).1, _, _, rfl, (e.xd h4).1, rfl⟩, by omega⟩⟩
instance {α β γ : Type} {r : Rep α} {s : Rep β} {t : Rep γ} [d : XDat r] [e : XDat s] [f : XDat t] : XDat (zL3 r s t) := ⟨fun x => .list [d.enc x.1, e.enc x.2.1, f.enc x.2.2], max d.dep (max e.dep f.dep) + 1, fun ⟨a, u, w, z, h1, h2, h3, h4, h5⟩ => by
  have := (d.xd h3).2
  have := (e.xd h4).2
  have := (f.xd h5).2
  simp only [xp, xpAll, PyData.depth, PyData.depthAll]
  exact ⟨⟨a, _, h1, h2, by show 3 ≤ big; decide, _, _, rfl, (d.xd h3).1, _, _, rfl, (e.xd h4).1, _, _, rfl, (f.xd h5).1, rfl⟩, by omega⟩⟩
instance {α : Type} {r : Rep α} [d : XDat r] : XDat (yO r) := ⟨fun o => match o with | none => .none | some x => d.enc x, d.dep, fun {F v x} h => by
  cases x with
  | none => simp only [xp, PyData.depth]; exact ⟨h, Nat.zero_le _⟩
  | some y => exact d.xd h⟩
/-! what data is -/
theorem le_XT {x : PyData} {ds : List PyData} (e : x = .tuple ds) : (iz yX x).Le (iz (yT yX) ds) := fun F v h => by
  subst e
  obtain ⟨h, hd⟩ := h
  simp only [xp] at h
  simp only [PyData.depth] at hd
  obtain ⟨a, vs, h1, h2, h3, h4⟩ := h
  exact ⟨⟨a, vs, h1, h2, xpAll_pvs h4 fun d hm => depth_mem (n := 60) (by omega) hm⟩, h3⟩
theorem le_XL {x : PyData} {ds : List PyData} (e : x = .list ds) : (iz yX x).Le (iz (yL yX) ds) := fun F v h => by
  subst e
  obtain ⟨h, hd⟩ := h
  simp only [xp] at h
  simp only [PyData.depth] at hd
  obtain ⟨a, vs, h1, h2, h3, h4⟩ := h
  exact ⟨⟨a, vs, h1, h2, xpAll_pvs h4 fun d hm => depth_mem (n := 60) (by omega) hm⟩, h3⟩
theorem le_XS {x : PyData} {z : Str} (e : x = .str z) : (iz yX x).Le (iz yS z) := fun F v h => by
  subst e
  have h : xp F (.str z) v := h.1
  simp only [xp] at h
  exact ⟨⟨h.1, h.2.1⟩, h.2.2⟩
theorem le_XI {x : PyData} {n : Int} (e : x = .int n) : (iz yX x).Le (iz zI n) := fun F v h => by
  subst e
  have h : xp F (.int n) v := h.1
  simp only [xp] at h
  exact h
theorem pvs_enc {α : Type} {r : Rep α} {f : α → PyData} (hf : ∀ F v x, yX.p F v (f x) → r.p F v x) : ∀ {xs : List α} {vs : List V}, PVs yX F vs (xs.map f) → PVs r F vs xs
  | [], _, h => by cases h; exact .nil
  | x :: xs, _, h => by
    cases h with
    | cons a b => exact .cons (hf _ _ _ a) (pvs_enc hf b)
theorem le_XLS {x : PyData} {zs : List Str} (e : x = .list (zs.map PyData.str)) : (iz yX x).Le (iz (yL yS) zs) := fun F v h => by
  obtain ⟨⟨a, vs, h1, h2, h3⟩, h4⟩ := le_XL e F v h
  rw [List.length_map] at h4
  exact ⟨⟨a, vs, h1, h2, pvs_enc (fun F v x h => le_XS rfl F v h) h3⟩, h4⟩
theorem le_XTI {x : PyData} {zs : List Int} (e : x = .tuple (zs.map PyData.int)) : (iz yX x).Le (iz (yT zI) zs) := fun F v h => by
  obtain ⟨⟨a, vs, h1, h2, h3⟩, h4⟩ := le_XT e F v h
  rw [List.length_map] at h4
  exact ⟨⟨a, vs, h1, h2, pvs_enc (fun F v x h => le_XI rfl F v h) h3⟩, h4⟩
mutual
theorem xp_dp {Kf : PySem.W.Frag} : ∀ (d : PyData) (v : V), xp F d v → Dp Kf F v d ∧ nb d = true
  | .none, _, h => by simp only [xp] at h; subst h; exact ⟨.non, rfl⟩
  | .int _, _, h => by simp only [xp] at h; subst h; exact ⟨.int _, rfl⟩
  | .str _, _, h => by
    simp only [xp] at h
    obtain ⟨rfl, h2, _⟩ := h
    exact ⟨.str _, h2.ok⟩
  | .bool _, _, h => by simp only [xp] at h
  | .dict _, _, h => by simp only [xp] at h
  | .list ds, _, h => by
    simp only [xp] at h
    obtain ⟨a, vs, rfl, h2, _, h4⟩ := h
    obtain ⟨g1, g2⟩ := xpAll_dp (Kf := Kf) ds vs h4
    exact ⟨.lst (SqL.of h2) g1, g2⟩
  | .tuple ds, _, h => by
    simp only [xp] at h
    obtain ⟨a, vs, rfl, h2, _, h4⟩ := h
    obtain ⟨g1, g2⟩ := xpAll_dp (Kf := Kf) ds vs h4
    exact ⟨.tup (SqT.of h2) g1, g2⟩
theorem xpAll_dp {Kf : PySem.W.Frag} : ∀ (ds : List PyData) (vs : List V), xpAll F ds vs → DpAll Kf F vs ds ∧ nbAll ds = true
  | [], _, h => by simp only [xpAll] at h; subst h; exact ⟨.nil, rfl⟩
  | d :: ds, _, h => by
    simp only [xpAll] at h
    obtain ⟨v, r, rfl, h2, h3⟩ := h
    obtain ⟨g1, g2⟩ := xp_dp (Kf := Kf) d v h2
    obtain ⟨g3, g4⟩ := xpAll_dp (Kf := Kf) ds r h3
    exact ⟨.cons g1 g3, by show (nb d && nbAll ds) = true; rw [g2, g4]; rfl⟩
end
open Classical in
noncomputable def xeq (x y : PyData) : Bool := decide (x = y)
theorem xeq_t {x y : PyData} : xeq x y = true ↔ x = y := by simp [xeq]
theorem xeq_eqv {x y : PyData} (hx : nb x = true) (hy : nb y = true) : PyData.eqv x y = xeq x y := by
  have h := eqv_nb x y hx hy
  cases e : PyData.eqv x y with
  | true => exact (xeq_t.mpr (h.mp e)).symm
  | false =>
    cases e2 : xeq x y with
    | true => rw [h.mpr (xeq_t.mp e2)] at e; cases e
    | false => rfl
/-- == of data of one kind -/
theorem oy_eqX {Kf : PySem.W.Frag} {α : Type} {r : Rep α} [d : XDat r] {x y : α} (hd : d.dep ≤ 64) (k : K (iz zB (xeq (d.enc x) (d.enc y))) Θ) : Ops fr Θ (rEqD Kf) (iz r x) (iz r y) K := fun F H v w ok hv hw Q q => by
  obtain ⟨a0, a3⟩ := d.xd hv
  obtain ⟨b0, b3⟩ := d.xd hw
  obtain ⟨a1, a2⟩ := xp_dp (Kf := Kf) _ v a0
  obtain ⟨b1, b2⟩ := xp_dp (Kf := Kf) _ w b0
  exact ⟨_, _, a1.up ok.fh, b1.up ok.fh, shaped_of a2 (Nat.le_trans a3 hd), shaped_of b2 (Nat.le_trans b3 hd), by rw [xeq_eqv a2 b2]; exact q.go k ok rfl⟩
theorem oy_neX {Kf : PySem.W.Frag} {α : Type} {r : Rep α} [d : XDat r] {x y : α} (hd : d.dep ≤ 64) (k : K (iz zB (!xeq (d.enc x) (d.enc y))) Θ) : Ops fr Θ (rNeD Kf) (iz r x) (iz r y) K := fun F H v w ok hv hw Q q => by
  obtain ⟨a0, a3⟩ := d.xd hv
  obtain ⟨b0, b3⟩ := d.xd hw
  obtain ⟨a1, a2⟩ := xp_dp (Kf := Kf) _ v a0
  obtain ⟨b1, b2⟩ := xp_dp (Kf := Kf) _ w b0
  exact ⟨_, _, a1.up ok.fh, b1.up ok.fh, shaped_of a2 (Nat.le_trans a3 hd), shaped_of b2 (Nat.le_trans b3 hd), by rw [xeq_eqv a2 b2]; exact q.go k ok rfl⟩
/-- xs == [] -/
theorem xeq_nil {α : Type} {f : α → PyData} {xs : List α} : xeq (.list (xs.map f)) (.list (([] : List α).map f)) = xs.isEmpty := by
  cases xs with
  | nil => exact xeq_t.mpr rfl
  | cons x xs =>
    cases e : xeq (.list ((x :: xs).map f)) (.list (([] : List α).map f)) with
    | false => rfl
    | true => exact absurd (PyData.list.inj (xeq_t.mp e)) (by simp)
theorem oy_eqE {Kf : PySem.W.Frag} {α : Type} {r : Rep α} [d : XDat r] {xs : List α} (hd : d.dep ≤ 60) (k : K (iz zB xs.isEmpty) Θ) : Ops fr Θ (rEqD Kf) (iz (yL r) xs) (iz (yL r) []) K := oy_eqX (r := yL r) (show d.dep + 1 ≤ 64 by omega) (by
  rw [show xeq (XDat.enc (yL r) xs) (XDat.enc (yL r) []) = xs.isEmpty from xeq_nil]
  exact k)
theorem oy_neE {Kf : PySem.W.Frag} {α : Type} {r : Rep α} [d : XDat r] {xs : List α} (hd : d.dep ≤ 60) (k : K (iz zB (!xs.isEmpty)) Θ) : Ops fr Θ (rNeD Kf) (iz (yL r) xs) (iz (yL r) []) K := oy_neX (r := yL r) (show d.dep + 1 ≤ 64 by omega) (by
  rw [show xeq (XDat.enc (yL r) xs) (XDat.enc (yL r) []) = xs.isEmpty from xeq_nil]
  exact k)
/-- papers: data that is a tuple -/
def pit : PyData → List PyData
  | .tuple ds => ds
  | _ => []
def yP : Rep PyData := ⟨fun F v d => (xp F d v ∧ d.depth ≤ 60) ∧ d = .tuple (pit d), fun e h => ⟨⟨xp_mono e _ _ h.1.1, h.1.2⟩, h.2⟩⟩
class PDat {α : Type} (r : Rep α) [d : XDat r] : Prop where
  t : ∀ x, d.enc x = .tuple (pit (d.enc x))
instance {α : Type} {r : Rep α} [XDat r] : PDat (z1 r) := ⟨fun _ => rfl⟩
instance {α : Type} {r : Rep α} [XDat r] : PDat (yT r) := ⟨fun _ => rfl⟩
instance {α β : Type} {r : Rep α} {s : Rep β} [XDat r] [XDat s] : PDat (z2 r s) := ⟨fun _ => rfl⟩
instance {α β γ : Type} {r : Rep α} {s : Rep β} {t : Rep γ} [XDat r] [XDat s] [XDat t] : PDat (z3 r s t) := ⟨fun _ => rfl⟩
instance {α β γ δ : Type} {r : Rep α} {s : Rep β} {t : Rep γ} {u : Rep δ} [XDat r] [XDat s] [XDat t] [XDat u] : PDat (z4 r s t u) := ⟨fun _ => rfl⟩
theorem le_P {α : Type} {r : Rep α} [d : XDat r] [p : PDat r] {x : α} (h : d.dep ≤ 60 := by decide) : (iz r x).Le (iz yP (d.enc x)) := fun F v q => ⟨⟨(d.xd q).1, Nat.le_trans (d.xd q).2 h⟩, p.t x⟩
theorem le_PX {x : PyData} : (iz yP x).Le (iz yX x) := fun F v h => h.1
theorem le_PT {x : PyData} : (iz yP x).Le (iz (yT yX) (pit x)) := fun F v h => le_XT h.2 F v h.1
instance : XDat yP := ⟨id, 60, fun h => h.1⟩
instance : NotNon yP := ⟨fun F v x h q => by
  obtain ⟨⟨a, vs, h1, _⟩, _⟩ := le_PT F v h
  rw [q] at h1
  cases h1⟩
theorem sp_P {x : PyData} : SeqY fr Θ (iz yP x) yX (pit x) := ⟨fun F H v ok h => sy_T.1 F H v ok (le_PT F v h), fun F H v ok h => sy_T.2 F H v ok (le_PT F v h)⟩
theorem oy_ixP {Kf : PySem.W.Frag} {x y : PyData} {n : Int} (e : atI (pit x) n = some y) (k : K (iz yX y) Θ) : Ops fr Θ (rIxT Kf) (iz yP x) (iz zI n) K := (oy_ixT e k).le le_PT (Vp.Le.refl _)
theorem ty_P {Kf : PySem.W.Frag} {x : PyData} : TyP fr Θ Kf (iz yP x) (.type "tuple") := fun F H v ok h => ty_yT F H v ok (le_PT F v h)
theorem ty_O {Kf : PySem.W.Frag} {α : Type} {r : Rep α} {o : Option α} (h : o = none) : TyP fr Θ Kf (iz (yO r) o) (.type "NoneType") := fun F H v ok hv => by
  subst h
  exact ty_N F H v ok hv
theorem ty_X {Kf : PySem.W.Frag} {x : PyData} {ds : List PyData} (e : x = .tuple ds) : TyP fr Θ Kf (iz yX x) (.type "tuple") := fun F H v ok h => ty_yT F H v ok (le_XT e F v h)
theorem ty_XL {Kf : PySem.W.Frag} {x : PyData} {ds : List PyData} (e : x = .list ds) : TyP fr Θ Kf (iz yX x) (.type "list") := fun F H v ok h => ty_yL F H v ok (le_XL e F v h)
end
end L2

set_option Elab.async false
set_option linter.all false
set_option maxRecDepth 100000
set_option maxHeartbeats 4000000
/-! New instances by what __init__ computes. -/
namespace L2
open PySem PySem.Spec PyProof.Rows PySem.HErr
section
variable {fr fr' : Fr} {Γ Γ' : Gam} {Θ Θ' : List Cel} {F F' H H' : Hp} {K : Vp → List Cel → Prop} {Qv : VK}
def MkPr (fr : Fr) (Γ : Gam) (Θ : List Cel) (pre : Pre) (E : L2.St → XK) (ps : List Vp) (K : Vp → List Cel → Prop) : Prop := ∃ out err, pre ps out err ∧ (∀ p, out p → K p Θ) ∧ ∀ e, err e → Kr fr Γ Θ (fun cls d σ H => E σ cls d H) e
theorem we_mkP {C : Addr} {pre : Pre} {E : L2.St → XK} {t : TA} (w : Wa fr Γ Θ t fun ps Θ1 => MkPr fr Γ Θ1 pre E ps K) : We fr Γ Θ (tMkD C (spI C pre) E t) K := we_mk w
theorem mkW {α β : Type} {ef : HE → Er} {args : α → List Vp} {r : Rep β} {m : α → DM β} {E : L2.St → XK} {ps : List Vp} {Q : β → Prop} {X : HE → Prop} (x : α) (h : m x Q X) (k : ∀ y, Q y → K (iz r y) Θ) (xx : ∀ z, X z → Kr fr Γ Θ (fun cls d σ H => E σ cls d H) (ef z)) (e : ps = args x := by rfl) : MkPr fr Γ Θ (preW ef args r m) E ps K :=
  ⟨_, _, ⟨x, Q, X, e, h, rfl, rfl⟩, fun p ⟨y, hy, e⟩ => by rw [e]; exact k y hy, fun er ⟨z, hz, e⟩ => by rw [e]; exact xx z hz⟩
theorem mkW0 {α β : Type} {ef : HE → Er} {args : α → List Vp} {r : Rep β} {m : α → DM β} {E : L2.St → XK} {ps : List Vp} {Q : β → Prop} (x : α) (h : m x Q noX) (k : ∀ y, Q y → K (iz r y) Θ) (e : ps = args x := by rfl) : MkPr fr Γ Θ (preW ef args r m) E ps K := mkW x h k (fun z hz => hz.elim) e
theorem mkWE {α β : Type} {ef : HE → Er} {args : α → List Vp} {r : Rep β} {m : α → DM β} {E : XK} {ps : List Vp} {Q : β → Prop} {X : HE → Prop} (hx : RseW fr E ef X) (x : α) (h : m x Q X) (k : ∀ y, Q y → K (iz r y) Θ) (e : ps = args x := by rfl) : MkPr fr Γ Θ (preW ef args r m) (fun _ => E) ps K := mkW x h k (fun z hz => hx z hz Γ Θ) e
theorem cy_isiO {Kf : PySem.W.Frag} {o : Option PyData} (k : K (iz zB o.isSome) Θ) : Cbs fr Θ (rIsi Kf) [iz (yO yP) o, zTy "tuple"] K := by
  cases o with
  | none => exact cb_isi (b := false) (ty_O (r := yP) rfl) (show kitB "NoneType" "tuple" = some false by decide +kernel) k
  | some x => exact cb_isi (p := iz yP x) (b := true) ty_P kit_tt k
end
section
variable {P : Program} {w : World} {K : PySem.W.Frag} {mg : Str → Option Value} {base : Heap} {CX : CXT} {C : Addr} {ps : List Str} {k : Nat} {sp sp' : Sp}
theorem DefI.imp (D : DefI P w K mg base CX k C ps sp) (h : ∀ vs H Q E, sp' vs H Q E → sp vs H Q E) : DefI P w K mg base CX k C ps sp' := by
  obtain ⟨f, fd, h1, h2, h3⟩ := D.ex
  exact ⟨f, fd, h1, h2, h3.imp h⟩
end
/-! rows of places, of steps -/
abbrev yPR : Rep (List (Str × Int)) := yL (z2 yS zI)
abbrev ySR : Rep (List SRow) := yL (z3 yS (yL yS) (yL yS))
def RowsB (prs : List (Str × Int)) (srs : List SRow) : Prop := (∀ r ∈ prs, r.1.length ≤ 1000) ∧ ∀ r ∈ srs, r.1.length ≤ 1000 ∧ r.2.1.length ≤ 1000 ∧ r.2.2.length ≤ 1000 ∧ (∀ y ∈ r.2.1, y.length ≤ 1000) ∧ ∀ y ∈ r.2.2, y.length ≤ 1000
def heOf : PErr → HE
  | .tooMany k l => .tooMany k l
  | .badWord w => .badWord w
  | .double n => .double n
  | .badNumber n => .badNumber n
  | .empty n => .empty n
  | .unknown n => .unknown n
def mk_Plan (prs : List (Str × Int)) (srs : List SRow) : DM PlanD := fun Q X => RowsB prs srs ∧ (planDue prs srs = none → Q (planOf prs srs)) ∧ ∀ y, planDue prs srs = some y → X (heOf y)
def ecs (cs : EK → Addr) : ECs := ⟨cs .tooMany, cs .badWord, cs .double, cs .badNumber, cs .empty, cs .unknown⟩
theorem le_PR {prs : List (Str × Int)} : (iz yPR prs).Le (iz (zL (z2 zS zI)) prs) := le_LLr fun F v x _ ⟨a, u, w, h1, h2, h3, h4⟩ => ⟨a, u, w, h1, h2, h3.1, h4⟩
theorem le_SR {srs : List SRow} : (iz ySR srs).Le (iz (zL (z3 zS (zL zS) (zL zS))) srs) := le_LLr fun F v x _ ⟨a, u, w, z, h1, h2, h3, h4, h5⟩ => ⟨a, u, w, z, h1, h2, h3.1, le_LLr (r := yS) (s := zS) (fun F v x _ h => h.1) F w h4, le_LLr (r := yS) (s := zS) (fun F v x _ h => h.1) F z h5⟩
/-- the strings of an error that is due stand in the rows -/
def strE : PErr → Option Str
  | .tooMany _ _ => none
  | .badWord w => some w
  | .double n => some n
  | .badNumber _ => none
  | .empty n => some n
  | .unknown n => some n
theorem chk_str {ks seen ws : List Str} {x : Bool × Str} (h : chk ks seen ws = some x) : x.2 ∈ ws := chk_mem (n := x.2) (b := x.1) (by rw [h])
theorem placesDue_str {e : PErr} {z : Str} : ∀ {seen : List Str} {prs : List (Str × Int)}, placesDue seen prs = some e → strE e = some z → ∃ r ∈ prs, r.1 = z
  | _, [], h, _ => by cases h
  | seen, (w, n) :: r, h, hz => by
    rw [placesDue_cons] at h
    split at h
    · split at h
      · cases h; cases hz; exact ⟨_, List.mem_cons_self .., rfl⟩
      · split at h
        · obtain ⟨q, hq, e⟩ := placesDue_str h hz
          exact ⟨q, List.mem_cons_of_mem _ hq, e⟩
        · cases h; cases hz
    · cases h; cases hz; exact ⟨_, List.mem_cons_self .., rfl⟩
theorem nameErr_str {x : Bool × Str} : strE (nameErr x) = some x.2 := by
  obtain ⟨b, n⟩ := x
  cases b <;> rfl
theorem stepDue_str {ps seen : List Str} {s : SRow} {e : PErr} {z : Str} (h : stepDue ps seen s = some e) (hz : strE e = some z) : z = s.1 ∨ z ∈ s.2.1 ∨ z ∈ s.2.2 := by
  unfold stepDue at h
  split at h
  · split at h
    · cases h; cases hz; exact .inl rfl
    · split at h
      · cases h; cases hz; exact .inl rfl
      · split at h
        · rename_i x hx
          cases h
          rw [nameErr_str] at hz
          cases hz
          exact .inr (.inl (chk_str hx))
        · obtain ⟨x, hx, e2⟩ := Option.map_eq_some_iff.mp h
          subst e2
          rw [nameErr_str] at hz
          cases hz
          exact .inr (.inr (chk_str hx))
  · cases h; cases hz; exact .inl rfl
theorem stepsDue_str {ps : List Str} {e : PErr} {z : Str} : ∀ {seen : List Str} {srs : List SRow}, stepsDue ps seen srs = some e → strE e = some z → ∃ s ∈ srs, z = s.1 ∨ z ∈ s.2.1 ∨ z ∈ s.2.2
  | _, [], h, _ => by cases h
  | seen, s :: r, h, hz => by
    rw [stepsDue_cons] at h
    split at h
    · rename_i e2 he
      cases h
      exact ⟨s, List.mem_cons_self .., stepDue_str he hz⟩
    · obtain ⟨q, hq, h2⟩ := stepsDue_str h hz
      exact ⟨q, List.mem_cons_of_mem _ hq, h2⟩
theorem due_str {prs : List (Str × Int)} {srs : List SRow} {e : PErr} {z : Str} (hb : RowsB prs srs) (h : planDue prs srs = some e) (hz : strE e = some z) : z.length ≤ 1000 := by
  unfold planDue at h
  split at h
  · cases h; cases hz
  · split at h
    · cases h; cases hz
    · split at h
      · rename_i e2 he
        cases h
        obtain ⟨r, hr, e3⟩ := placesDue_str he hz
        rw [← e3]
        exact hb.1 r hr
      · obtain ⟨s, hs, h2⟩ := stepsDue_str h hz
        obtain ⟨b1, b2, b3, b4, b5⟩ := hb.2 s hs
        rcases h2 with h2 | h2 | h2
        · rw [h2]; exact b1
        · exact b4 z h2
        · exact b5 z h2
end L2

set_option Elab.async false
set_option linter.all false
set_option maxRecDepth 100000
set_option maxHeartbeats 4000000
/-! Texts, bools, mixed lists. -/
namespace L2
open PySem PySem.Spec PyProof.Rows PySem.HErr
section
variable {X : Cx} {K : PySem.W.Frag} {pos : Pos}
theorem kpg_lst {es : List Expr} {k : Nat} {t : TGs} {n : Nat} (hc : X.calm = true) (h : PGs X es t) (hn : (assignEach es X.env).length = n := by rfl) (hst : (assignEach es X.env).findIdx? (·.1) = none := by rfl) (hK : X.K = K := by rfl) : PG X (.Tuple es k pos) (gLst K n t) := hK ▸ pg_lst hc h hn hst
theorem kpg_tup {es : List Expr} {k : Nat} {t : TGs} {n : Nat} (hc : X.calm = true) (h : PGs X es t) (hn : (assignEach es X.env).length = n := by rfl) (hst : (assignEach es X.env).findIdx? (·.1) = none := by rfl) (hK : X.K = K := by rfl) : PG X (.Tuple es k pos) (gTup K n t) := hK ▸ pg_tup hc h hn hst
end
section
variable {fr fr' : Fr} {Γ Γ' : Gam} {Θ Θ' : List Cel} {F F' H H' : Hp} {K : Vp → List Cel → Prop} {Qv : VK}
theorem oy_isB {a b : Bool} (k : K (iz zB (decide (a = b))) Θ) : Ops fr Θ (fun x y H Q => ∃ a b, x = .bl a ∧ y = .bl b ∧ Q (.bl (decide (a = b))) H) (iz zB a) (iz zB b) K := fun F H v w ok hv hw Q q => ⟨a, b, hv, hw, q.go k ok rfl⟩
theorem oy_notB {a b : Bool} (k : K (iz zB (!decide (a = b))) Θ) : Ops fr Θ (fun x y H Q => ∃ a b, x = .bl a ∧ y = .bl b ∧ Q (.bl (!decide (a = b))) H) (iz zB a) (iz zB b) K := fun F H v w ok hv hw Q q => ⟨a, b, hv, hw, q.go k ok rfl⟩
/-- a list of things, as a list of data -/
theorem le_LX {α : Type} {r : Rep α} [d : XDat r] {xs : List α} (h : d.dep ≤ 60 := by decide) : (iz (yL r) xs).Le (iz (yL yX) (xs.map d.enc)) := fun F v ⟨⟨a, vs, h1, h2, h3⟩, h4⟩ => by
  have h5 : PVs yX F vs (xs.map d.enc) := by
    clear h1 h2 h4
    have : ∀ {vs : List V} {xs : List α}, PVs r F vs xs → PVs yX F vs (xs.map d.enc) := fun {vs xs} q => by
      induction q with
      | nil => exact .nil
      | cons a _ ih => exact .cons (le_X h F _ a) ih
    exact this h3
  exact ⟨⟨a, vs, h1, h2, h5⟩, by rw [List.length_map]; exact h4⟩
theorem le_LP {α : Type} {r : Rep α} [d : XDat r] [p : PDat r] {xs : List α} (h : d.dep ≤ 60 := by decide) : (iz (yL r) xs).Le (iz (yL yP) (xs.map d.enc)) := fun F v ⟨⟨a, vs, h1, h2, h3⟩, h4⟩ => by
  have h5 : PVs yP F vs (xs.map d.enc) := by
    clear h1 h2 h4
    have : ∀ {vs : List V} {xs : List α}, PVs r F vs xs → PVs yP F vs (xs.map d.enc) := fun {vs xs} q => by
      induction q with
      | nil => exact .nil
      | cons a _ ih => exact .cons (le_P h F _ a) ih
    exact this h3
  exact ⟨⟨a, vs, h1, h2, h5⟩, by rw [List.length_map]; exact h4⟩
theorem joinL_len (S : List Nat) : ∀ parts : List (List Nat), (TL.joinL S parts).length ≤ (parts.map List.length).sum + parts.length * S.length
  | [] => by simp [TL.joinL]
  | [p] => by
    show p.length ≤ _
    simp
  | p :: q :: r => by
    have := joinL_len S (q :: r)
    show (p ++ (S ++ TL.joinL S (q :: r))).length ≤ _
    rw [List.length_append, List.length_append, List.map_cons, List.sum_cons, List.length_cons, Nat.succ_mul]
    omega
theorem joinL_mem (S : List Nat) (c : Nat) : ∀ parts : List (List Nat), c ∈ TL.joinL S parts → c ∈ S ∨ ∃ p ∈ parts, c ∈ p
  | [], h => by cases h
  | [p], h => .inr ⟨p, List.mem_cons_self .., h⟩
  | p :: q :: r, h => by
    rcases List.mem_append.mp h with h | h
    · exact .inr ⟨p, List.mem_cons_self .., h⟩
    · rcases List.mem_append.mp h with h | h
      · exact .inl h
      · rcases joinL_mem S c (q :: r) h with h | ⟨p, hp, h⟩
        · exact .inl h
        · exact .inr ⟨p, List.mem_cons_of_mem _ hp, h⟩
theorem join_cps (y : Str) (parts : List Str) : (Txt.join y parts).cps.toList = TL.joinL y.cps.toList (parts.map fun p => p.cps.toList) := by
  have := TL.tl_join y parts
  rw [← TL.join_eq] at this
  exact this
theorem join_len (y : Str) (parts : List Str) : (Txt.join y parts).length ≤ (parts.map (·.length)).sum + parts.length * y.length := by
  show (Txt.join y parts).cps.toList.length ≤ _
  rw [join_cps]
  have := joinL_len y.cps.toList (parts.map fun p => p.cps.toList)
  rw [List.length_map, List.map_map] at this
  exact this
theorem join_asc {y : Str} {parts : List Str} (hy : Asc y) (hp : ∀ p ∈ parts, Asc p) : Asc (Txt.join y parts) := fun c hc => by
  rw [join_cps] at hc
  rcases joinL_mem _ _ _ hc with h | ⟨p, h1, h2⟩
  · exact hy c h
  · obtain ⟨q, hq, rfl⟩ := List.mem_map.mp h1
    exact hp q hq c h2
theorem tyl_yS {x : Str} {Kf : PySem.W.Frag} : ∀ F H v, OkF fr Θ F H → (iz yS x).p F v → tyV Kf "str" v H := fun F H v ok h => tyl_S F H v ok h.1
theorem my_join {Kf : PySem.W.Frag} {xs : List Str} {x : Str} (hs : (xs.map (·.length)).sum + xs.length * x.length ≤ big) (k : K (iz yS (Txt.join x xs)) Θ) : Mts fr Θ (fun x xs H Q => ∃ a p, ∃ ys : List Str, x = .str a ∧ xs = [.ref p] ∧ (SqL Kf H p (ys.map V.str) ∨ SqT Kf H p (ys.map V.str)) ∧
    (ys.map (·.length)).sum + ys.length * a.length ≤ 16777216 ∧ Q (.str (Txt.join a ys)) H) (iz yS x) [iz (yL yS) xs] K := fun F H v vs ok hv hps Q q => by
  cases hps with
  | cons h1 hp => cases hp with
    | nil =>
      obtain ⟨⟨a, us, rfl, h2, h3⟩, _⟩ := h1
      have h4 : PVs zS F us xs := Paired.imp2 (fun _ _ h => h.1) h3
      obtain ⟨rfl, hA⟩ := pvs_S h4
      obtain ⟨⟨rfl, hx⟩, _⟩ := hv
      exact ⟨x, a, xs, rfl, rfl, .inl (SqL.of (ok.fh _ _ h2)), Nat.le_trans hs (by decide), q.go k ok ⟨⟨rfl, join_asc hx hA⟩, Nat.le_trans (join_len x xs) hs⟩⟩
end
end L2

set_option Elab.async false
set_option linter.all false
set_option maxRecDepth 100000
set_option maxHeartbeats 4000000
/-! Plain Lean about what defs compute. -/
namespace L2
open PySem PySem.Spec PyProof.Rows PySem.HErr
section
variable {α β S : Type}
theorem forD_inv {body : α → S → (S → Prop) → (S → Prop) → Prop} {after : S → Prop} {xs : List α} {s : S} (I : List α → S → Prop) (h0 : I [] s)
    (hs : ∀ pre x post s nx, xs = pre ++ x :: post → I pre s → (∀ s', I (pre ++ [x]) s' → nx s') → body x s nx after) (hd : ∀ s, I xs s → after s) : forD xs s body after := by
  have key : ∀ (post pre : List α) (s : S), xs = pre ++ post → I pre s → forD post s body after := by
    intro post
    induction post with
    | nil =>
      intro pre s e h
      rw [List.append_nil] at e
      subst e
      exact hd s h
    | cons x post ih =>
      intro pre s e h
      exact hs pre x post s _ e h fun s' h' => ih (pre ++ [x]) s' (by rw [e]; simp) h'
  exact key xs [] s rfl h0
/-- a loop that folds -/
theorem forD_ok {body : α → S → (S → Prop) → (S → Prop) → Prop} {after : S → Prop} (step : S → α → S) : ∀ {xs : List α} {s : S}, (∀ x ∈ xs, ∀ s nx, nx (step s x) → body x s nx after) → after (xs.foldl step s) → forD xs s body after
  | [], _, _, h => h
  | x :: xs, s, hb, h => hb x (List.mem_cons_self ..) s _ (forD_ok step (fun y hy => hb y (List.mem_cons_of_mem _ hy)) h)
/-- a loop that looks for the first -/
theorem forD_find {body : α → S → (S → Prop) → (S → Prop) → Prop} {after : S → Prop} {s : S} {p : α → Bool} {E : α → Prop} : ∀ {xs : List α}, (∀ x ∈ xs, ∀ nx, (p x = true → E x) → (p x = false → nx s) → body x s nx after) → (∀ x, xs.find? p = some x → E x) → (xs.find? p = none → after s) → forD xs s body after
  | [], _, _, h => h rfl
  | x :: xs, hb, hf, hn => by
    refine hb x (List.mem_cons_self ..) _ (fun h => hf x ?_) fun h => forD_find (fun y hy => hb y (List.mem_cons_of_mem _ hy)) (fun y hy => hf y ?_) (fun h2 => hn ?_)
    · rw [List.find?_cons, h]
    · rw [List.find?_cons, h]; exact hy
    · rw [List.find?_cons, h]; exact h2
/-- a loop that lets all pass -/
theorem forD_all {body : α → S → (S → Prop) → (S → Prop) → Prop} {after : S → Prop} {s : S} : ∀ {xs : List α}, (∀ x ∈ xs, ∀ nx, nx s → body x s nx after) → after s → forD xs s body after
  | [], _, h => h
  | x :: xs, hb, h => hb x (List.mem_cons_self ..) _ (forD_all (fun y hy => hb y (List.mem_cons_of_mem _ hy)) h)
theorem whileD_inv {step : S → (S → Prop) → (S → Prop) → Prop} {after : S → Prop} {s : S} (I : S → Prop) (μ : S → Nat) (h0 : I s) (hs : ∀ s nx, I s → (∀ s', I s' → μ s' < μ s → nx s') → step s nx after) : whileD s step after := by
  have key : ∀ (n : Nat) (s : S), I s → μ s < n → whileN n s step after := by
    intro n
    induction n with
    | zero => intro s _ h; omega
    | succ n ih => intro s h hm; exact hs s _ h fun s' h' hl => ih s' h' (by omega)
  exact ⟨_, key (μ s + 1) s h0 (Nat.lt_succ_self _)⟩
theorem mapD_ok {f : α → (β → Prop) → Prop} {k : List β → Prop} (g : α → β) : ∀ {xs : List α} {acc : List β}, (∀ x ∈ xs, ∀ k, k (g x) → f x k) → k (acc ++ xs.map g) → mapD xs acc f k
  | [], acc, _, h => by simpa [mapD] using h
  | x :: xs, acc, hf, h => hf x (List.mem_cons_self ..) _ (mapD_ok g (fun y hy => hf y (List.mem_cons_of_mem _ hy)) (by simpa using h))
theorem mapD_inv {f : α → (β → Prop) → Prop} {k : List β → Prop} (R : α → β → Prop) : ∀ {xs : List α} {acc : List β}, (∀ x ∈ xs, ∀ k, (∀ y, R x y → k y) → f x k) → (∀ ys, Paired R xs ys → k (acc ++ ys)) → mapD xs acc f k
  | [], acc, _, h => by simpa [mapD] using h [] .nil
  | x :: xs, acc, hf, h => hf x (List.mem_cons_self ..) _ fun y hy => mapD_inv R (fun z hz => hf z (List.mem_cons_of_mem _ hz)) fun ys hys => by
    have := h (y :: ys) (.cons hy hys)
    simpa using this
theorem compD_ok {f : α → (Option β → Prop) → Prop} {k : List β → Prop} (pr : α → Bool) (g : α → β) : ∀ {xs : List α} {acc : List β}, (∀ x ∈ xs, ∀ k, k (if pr x = true then some (g x) else none) → f x k) → k (acc ++ (xs.filter pr).map g) → compD xs acc f k
  | [], acc, _, h => by simpa [compD] using h
  | x :: xs, acc, hf, h => hf x (List.mem_cons_self ..) _ (compD_ok pr g (fun y hy => hf y (List.mem_cons_of_mem _ hy)) (by
    rw [List.filter_cons] at h
    cases e : pr x with
    | true => rw [if_pos e] at h; simpa [e] using h
    | false => rw [if_neg (by rw [e]; exact Bool.false_ne_true)] at h; simpa [e] using h))
/-- a loop that lays by -/
theorem forD_push {T : Type} {body : α → List T → (List T → Prop) → (List T → Prop) → Prop} {after : List T → Prop} (f : α → T) {N : Nat} : ∀ {xs : List α} {s : List T}, (∀ x ∈ xs, ∀ s nx, s.length < N → nx (s ++ [f x]) → body x s nx after) → s.length + xs.length ≤ N → after (s ++ xs.map f) → forD xs s body after
  | [], s, _, _, h => by simpa [forD] using h
  | x :: xs, s, hb, hN, h => hb x (List.mem_cons_self ..) s _ (by rw [List.length_cons] at hN; omega) (forD_push f (fun y hy => hb y (List.mem_cons_of_mem _ hy)) (by rw [List.length_append]; rw [List.length_cons] at hN; show _ + 1 + _ ≤ _; omega) (by simpa using h))
theorem forD_app {T : Type} {body : α → List T → (List T → Prop) → (List T → Prop) → Prop} {after : List T → Prop} (g : α → List T) {N : Nat} : ∀ {xs : List α} {s : List T}, (∀ x ∈ xs, ∀ s nx, s.length + (g x).length ≤ N → nx (s ++ g x) → body x s nx after) → s.length + (xs.flatMap g).length ≤ N → after (s ++ xs.flatMap g) → forD xs s body after
  | [], s, _, _, h => by simpa [forD] using h
  | x :: xs, s, hb, hN, h => by
    rw [List.flatMap_cons, List.length_append] at hN
    exact hb x (List.mem_cons_self ..) s _ (by omega) (forD_app g (fun y hy => hb y (List.mem_cons_of_mem _ hy)) (by rw [List.length_append]; omega) (by simpa using h))
theorem mapD_map {γ : Type} {g : γ → α} {f : α → (β → Prop) → Prop} {k : List β → Prop} : ∀ {xs : List γ} {acc : List β}, mapD (xs.map g) acc f k = mapD xs acc (fun x => f (g x)) k
  | [], _ => rfl
  | x :: xs, acc => by
    show (f (g x) fun y => mapD (xs.map g) (acc ++ [y]) f k) = f (g x) fun y => mapD xs (acc ++ [y]) _ k
    congr 1
    funext y
    exact mapD_map
theorem compD_map {γ : Type} {g : γ → α} {f : α → (Option β → Prop) → Prop} {k : List β → Prop} : ∀ {xs : List γ} {acc : List β}, compD (xs.map g) acc f k = compD xs acc (fun x => f (g x)) k
  | [], _ => rfl
  | x :: xs, acc => by
    show (f (g x) fun y => compD (xs.map g) (acc ++ y.toList) f k) = f (g x) fun y => compD xs (acc ++ y.toList) _ k
    congr 1
    funext y
    exact compD_map
theorem forD_map {γ : Type} {g : γ → α} {body : α → S → (S → Prop) → (S → Prop) → Prop} {after : S → Prop} : ∀ {xs : List γ} {s : S}, forD (xs.map g) s body after = forD xs s (fun x => body (g x)) after
  | [], _ => rfl
  | x :: xs, s => by
    show body (g x) s (fun s' => forD (xs.map g) s' body after) after = body (g x) s (fun s' => forD xs s' _ after) after
    congr 1
    funext s'
    exact forD_map
theorem ifD_t {c : Bool} {A B : Prop} (e : c = true) (h : A) : ifD c A B := ⟨fun _ => h, fun f => by rw [e] at f; cases f⟩
theorem ifD_f {c : Bool} {A B : Prop} (e : c = false) (h : B) : ifD c A B := ⟨(fun f => by rw [e] at f; cases f), fun _ => h⟩
theorem andD_ok {b c : Bool} {f : (Bool → Prop) → Prop} {k : Bool → Prop} (hf : b = true → ∀ k, k c → f k) (h : k (b && c)) : andD b f k := by
  cases b with
  | true => exact ⟨fun _ => hf rfl _ h, (fun e => nomatch e)⟩
  | false => exact ⟨(fun e => nomatch e), fun _ => h⟩
theorem orD_ok {b c : Bool} {f : (Bool → Prop) → Prop} {k : Bool → Prop} (hf : b = false → ∀ k, k c → f k) (h : k (b || c)) : orD b f k := by
  cases b with
  | true => exact ⟨fun _ => h, (fun e => nomatch e)⟩
  | false => exact ⟨(fun e => nomatch e), fun _ => hf rfl _ h⟩
end
/-! texts -/
theorem join0_cps (ws : List Str) : (Txt.join "" ws).cps.toList = (ws.map fun w => w.cps.toList).flatten := by
  rw [join_cps]
  show TL.joinL [] _ = _
  have : ∀ l : List (List Nat), TL.joinL [] l = l.flatten := fun l => by
    induction l with
    | nil => rfl
    | cons a l ih =>
      cases l with
      | nil => simp [TL.joinL]
      | cons b l =>
        show a ++ ([] ++ TL.joinL [] (b :: l)) = _
        rw [ih]
        simp
  exact this _
theorem len_join0 {ws : List Str} {y : Str} (h : y ∈ ws) : y.length ≤ (Txt.join "" ws).length := by
  show y.cps.toList.length ≤ (Txt.join "" ws).cps.toList.length
  rw [join0_cps]
  have hm : y.cps.toList ∈ ws.map fun w => w.cps.toList := List.mem_map.mpr ⟨y, h, rfl⟩
  exact (List.sublist_flatten_of_mem hm).length_le
theorem strange_not {ws : List Str} {c : Str} (hc : 0 < c.length) : c ++ Txt.join "" ws ∉ ws := fun h => by
  have h1 := len_join0 h
  have h2 : (c ++ Txt.join "" ws).length = c.length + (Txt.join "" ws).length := by
    show (c.cps ++ (Txt.join "" ws).cps : Array Nat).size = _
    rw [Array.size_append]
    rfl
  omega
theorem sum_wd {l : List Str} (h : ∀ y ∈ l, Wd y) : (l.map (·.length)).sum ≤ 12 * l.length := by
  induction l with
  | nil => exact Nat.le_refl _
  | cons y l ih =>
    have h1 := (h y (List.mem_cons_self ..)).len
    have h2 := ih fun z hz => h z (List.mem_cons_of_mem _ hz)
    rw [List.map_cons, List.sum_cons, List.length_cons]
    omega
/-! plans -/
theorem find_flat {α β γ : Type} {f : α → List β} {g : β → Option γ} : ∀ {l : List α}, (l.flatMap f).findSome? g = l.findSome? fun x => (f x).findSome? g
  | [] => rfl
  | a :: l => by
    rw [List.flatMap_cons, List.findSome?_append, List.findSome?_cons, find_flat (l := l)]
    cases (f a).findSome? g <;> rfl
theorem atI_0 {α : Type} {x : α} {xs : List α} : atI (x :: xs) 0 = some x := atI_nat (j := 0) rfl
theorem mem_intsF0 {n : Int} {k : Int} (h : k ∈ intsF 0 n.toNat) : ∃ j : Nat, (j : Int) < n ∧ k = j := by
  obtain ⟨j, hj, e⟩ := mem_intsF h
  exact ⟨j, by omega, e⟩
end L2

set_option Elab.async false
set_option linter.all false
set_option maxRecDepth 100000
set_option maxHeartbeats 4000000
/-! Boxes of draws of other forms. -/
namespace L2
open PySem PySem.Spec PyProof.Rows PySem.HErr
/-- the box at b: the script's copy at l, then ints -/
def cBg (b l : Addr) (ns is : List Int) : Cel := ⟨b, true, fun F o => o = .lst (.ref l :: is.map V.int) ∧ F l = some (.lst (ns.map V.int)) ∧ ns.length ≤ big, fun e ⟨h1, h2, h3⟩ => ⟨h1, e _ _ h2, h3⟩⟩
def cBag (t : Nat) (b l : Addr) : Cel := ⟨b, true, fun F o => ∃ (ns is : List Int), is.length = t ∧ (∀ i, is[0]? = some i → 0 ≤ i) ∧ (cBg b l ns is).φ F o, fun e ⟨ns, is, h1, h2, h3⟩ => ⟨ns, is, h1, h2, (cBg b l ns is).mono e h3⟩⟩
abbrev BKind := Addr → Addr → Cel
def preK (mk : BKind) (q : PreB) : PreC := fun ps Θ out err => ∃ b l qs o, ps = zAt b :: qs ∧ Θ = [mk b l] ∧ q qs o ∧ out = (fun p Θ' => o p ∧ Θ' = [mk b l]) ∧ err = fun _ _ => False
def RetKW {β : Type} (mk : BKind) (fr : Fr) (b l : Addr) (Qv : VK) (r : Rep β) (Q : β → Prop) : Prop := ∀ y, Q y → ∀ Θ, mk b l ∈ Θ → Rt fr Θ Qv (iz r y)
section
variable {mk : BKind} {fr fr' : Fr} {Γ Γ' : Gam} {Θ Θ' : List Cel} {F F' H H' : Hp} {K : Vp → List Cel → Prop} {Qv : VK}
theorem RetKW.fine {β : Type} {b l : Addr} {r : Rep β} {Q : β → Prop} (h : RetKW mk fr b l Qv r Q) (le : FrLe fr fr') : RetKW mk fr' b l Qv r Q := fun y hy Θ hc => (h y hy Θ hc).fine le
theorem sps_K {q : PreB} {E : L2.St → XK} {b l : Addr} {qs : List Vp} {o : Vp → Prop} (hc : mk b l ∈ Θ) (hq : q qs o) (k : ∀ p, o p → K p Θ) : Sps fr Γ Θ (spC (preK mk q)) E (zAt b :: qs) K := fun σ F H vs ok env hps Q kq => by
  obtain ⟨Θr, pm⟩ := perm_of_mem hc
  have ok1 := ok.perm pm
  exact ⟨F, _, [mk b l], _, _, ok1.fh, ok1.cellsAt, hps, ⟨b, l, qs, o, rfl, rfl, hq, rfl, rfl⟩, fun p Θ' ⟨ho, hΘ⟩ v F' H' ef h => by
    subst hΘ
    exact kq p Θ (k p ho) v F' H' ef.ff ((ok1.eff ef).perm pm.symm) h, fun e Θ' he => he.elim⟩
theorem sps_KW {α β : Type} {args : α → List Vp} {r : Rep β} {m : α → DM β} {E : L2.St → XK} {ps : List Vp} {Q : β → Prop} {b l : Addr} {j : Nat} (hj : Θ[j]? = some (mk b l)) (x : α) (h : m x Q noX) (k : ∀ y, Q y → K (iz r y) Θ) (e : ps = zAt b :: args x := by rfl) : Sps fr Γ Θ (spC (preK mk (preBW args r m))) E ps K := by
  subst e
  exact sps_K (List.mem_of_getElem? hj) ⟨x, Q, rfl, h, rfl⟩ fun p ⟨y, hy, e⟩ => by rw [e]; exact k y hy
/-! the box opened, closed -/
theorem OkF.recell {c c' : Cel} {j : Nat} (k : OkF fr Θ F H) (hj : Θ[j]? = some c) (ha : c'.a = c.a) (ho : c'.own = c.own) (h : ∀ o, c.φ F o → c'.φ F o) : OkF fr (Θ.set j c') F H := by
  obtain ⟨_, ⟨o, h2, h3⟩, _⟩ := k.ce c (List.mem_of_getElem? hj)
  have := k.mut (c' := c') (o := o) hj ha ho (h o h3)
  have e : upd H c.a o = H := by
    funext a
    by_cases q : a = c.a
    · rw [q, upd_same, h2]
    · rw [upd_ne q]
  rw [e] at this
  exact this
theorem kn_bag {t : Nat} {b l : Addr} {j : Nat} {P : L2.St → Hp → Prop} (hj : Θ[j]? = some (cBag t b l)) (k : ∀ (ns is : List Int), is.length = t → (∀ i, is[0]? = some i → 0 ≤ i) → Kn fr Γ (Θ.set j (cBg b l ns is)) P) : Kn fr Γ Θ P := fun σ F H ok env => by
  obtain ⟨_, ⟨o, h2, ns, is, h3, h4, h5⟩, _⟩ := ok.ce _ (List.mem_of_getElem? hj)
  obtain ⟨h6, h7, h8⟩ := h5
  subst h6
  have := ok.mut (c' := cBg b l ns is) (o := .lst (.ref l :: is.map V.int)) hj rfl rfl ⟨rfl, h7, h8⟩
  have e : upd H (cBag t b l).a (.lst (.ref l :: is.map V.int)) = H := by
    funext a
    by_cases q : a = (cBag t b l).a
    · rw [q, upd_same, h2]
    · rw [upd_ne q]
  rw [e] at this
  exact k ns is h3 h4 σ F H this env
theorem rt_bag {t : Nat} {b l : Addr} {j : Nat} {ns is : List Int} {rt : VK} {p : Vp} (hj : Θ[j]? = some (cBg b l ns is)) (h1 : is.length = t) (h2 : ∀ i, is[0]? = some i → 0 ≤ i) (k : Rt fr (Θ.set j (cBag t b l)) rt p) : Rt fr Θ rt p := fun v F H ok hv => k v F H (ok.recell hj rfl rfl fun o ho => ⟨ns, is, h1, h2, ho⟩) hv
theorem ob_ix {Kf : PySem.W.Frag} {b l : Addr} {j m : Nat} {ns is : List Int} {n : Int} {x : Int} (hj : Θ[j]? = some (cBg b l ns is)) (hn : n = (m : Int) + 1) (e : is[m]? = some x) (k : K (iz zI x) Θ) : Ops fr Θ (rIxL Kf) (zAt b) (iz zI n) K := fun F H v w ok hv hw Q q => by
  obtain ⟨_, ⟨o, h2, h3, h4, h5⟩, _⟩ := ok.ce _ (List.mem_of_getElem? hj)
  subst h3
  have hv : v = .ref b := hv
  have hw : w = .int n := hw
  subst hv hw hn
  refine ⟨b, _, _, .int x, rfl, rfl, SqL.of h2, ?_, q.go k ok rfl⟩
  rw [show ((m : Int) + 1) = ((m + 1 : Nat) : Int) by omega]
  refine atI_nat ?_
  rw [List.getElem?_cons_succ, List.getElem?_map, e]
  rfl
theorem ob_ix0 {Kf : PySem.W.Frag} {b l : Addr} {j : Nat} {ns is : List Int} (hj : Θ[j]? = some (cBg b l ns is)) (k : K (iz (yL zI) ns) Θ) : Ops fr Θ (rIxL Kf) (zAt b) (iz zI 0) K := fun F H v w ok hv hw Q q => by
  obtain ⟨_, ⟨o, h2, h3, h4, h5⟩, _⟩ := ok.ce _ (List.mem_of_getElem? hj)
  subst h3
  have hv : v = .ref b := hv
  have hw : w = .int 0 := hw
  subst hv hw
  exact ⟨b, _, _, .ref l, rfl, rfl, SqL.of h2, atI_nat (j := 0) rfl, q.go k ok ⟨⟨l, _, rfl, h4, ints_pvs⟩, h5⟩⟩
theorem kb_set {b l : Addr} {i j m : Nat} {ns is : List Int} {te ti : TE} {D : Ends} (hi : Γ[i]? = some (some (zAt b)))
    (w : We fr Γ Θ te fun p Θ1 => We fr Γ Θ1 ti fun q Θ2 => ∃ x n, p = iz zI x ∧ q = iz zI n ∧ n = (m : Int) + 1 ∧ m < is.length ∧ Θ2[j]? = some (cBg b l ns is) ∧ Kn fr Γ (Θ2.set j (cBg b l ns (is.set m x))) D.nx) : Kn fr Γ Θ (tAsg te (gSub (tVar i) ti rSetL) D) := fun σ F H ok env =>
  w σ F H ok env _ fun p Θ1 k v F1 H1 s1 ok1 hp => by
    obtain ⟨v0, h1, h2⟩ := (env.mono s1).get hi
    have h2 : v0 = .ref b := h2
    subst h2
    refine ⟨_, h1, k σ F1 H1 ok1 (env.mono s1) _ fun q Θ2 ⟨x, n, e1, e2, hn, hm, hj, k2⟩ w2 F2 H2 s2 ok2 hp2 => ?_⟩
    subst e1 e2 hn
    obtain ⟨_, ⟨o, h3, h4, h5, h6⟩, _⟩ := ok2.ce _ (List.mem_of_getElem? hj)
    subst h4
    have hp : v = .int x := hp
    subst hp
    refine ⟨b, _, _, m + 1, rfl, hp2, h3, ?_, k2 σ F2 _ (ok2.mut hj rfl rfl ⟨?_, h5, h6⟩) ((env.mono s1).mono s2)⟩
    · unfold ixN
      simp only [List.length_cons, List.length_map]
      rw [if_pos (by omega), if_pos (by omega)]
      congr 1
    · show HO.lst _ = HO.lst _
      rw [List.set_cons_succ, List.map_set]
end
section
variable {mk : BKind} {P : Program} {w : World} {K : PySem.W.Frag} {mg : Str → Option Value} {base : Heap} {x m qual : Str} {C : Addr} {st : Stmt} {N ps : List Str} {k : Nat} {α β : Type} {ef : HE → Er} {args : α → List Vp} {r : Rep β} {md : α → DM β}
theorem Src.okKW (hmk : ∀ b l, (mk b l).own = true) (F : Src K mg x st ps) (S : FnScope N ps (defScope st)) (len : ∀ x, (args x).length + 1 = ps.length)
    (hbody : ∀ (f : Addr) (cdv : Value) (A : Around) (outer : List Env) (s : Shared) (H : Hp) (E : XK) (b l : Addr) (a : α) (Q : β → Prop), Room k (A.deeper (envOfC x (defScope st) s.heap.objs.size f cdv)) → md a Q noX →
      ∃ t, PSs (cxOf CX0 P w K mg base N x (defScope st) f cdv A outer s H E).nox (defBody st) t ∧ ∀ fr Qv, RetKW mk fr b l Qv r Q → Kn fr (envOf N (zAt b :: args a)) [mk b l] (t { nx := fun _ H' => Qv .non H', rt := Qv })) : Def P w K mg base CX0 (k + 1) x ps (spC (preK mk (preBW args r md))) :=
  F.okC S (fun qs Θ out err ⟨b, l, qs', o, h1, h2, ⟨a, Q, e, _⟩, _⟩ => ⟨by rw [h1, e]; exact len a, fun c hc => by rw [h2] at hc; rw [List.mem_singleton.mp hc]; exact hmk b l⟩) fun f cdv A outer s H E qs Θ out err hr ⟨b, l, qs', o, e1, e2, ⟨a, Q, e3, h, e4⟩, e5, e6⟩ => by
    subst e1 e2 e3 e4 e5 e6
    obtain ⟨t, ht, hk⟩ := hbody f cdv A outer s H E b l a Q hr h
    refine ⟨t, ht, fun fr Qv hret => hk fr Qv fun y hy Θ hc => ?_⟩
    obtain ⟨Θr, pm⟩ := perm_of_mem hc
    refine hret _ [mk b l] ⟨⟨y, hy, rfl⟩, rfl⟩ rfl Θ Θr pm
end
end L2

set_option Elab.async false
set_option linter.all false
set_option maxRecDepth 100000
set_option maxHeartbeats 4000000
/-! The script, boxes made of it. -/
namespace L2
open PySem PySem.Spec PyProof.Rows PySem.HErr
def zScr (Kf : PySem.W.Frag) : Rep (List Int) := ⟨fun F v ns => ∃ a, v = .ref a ∧ SqL Kf F a (ns.map V.int) ∧ ns.length ≤ 63, fun e ⟨a, h1, h2, h3⟩ => ⟨a, h1, e.seq h2, h3⟩⟩
def preBag (Kf : PySem.W.Frag) (t : Nat) : PreN := fun ps out err => ∃ ns, ps = [iz (zScr Kf) ns] ∧ out = (fun p Θn => ∃ b l, p = zAt b ∧ Θn = [cBag t b l]) ∧ err = noErr
section
variable {fr fr' : Fr} {Γ Γ' : Gam} {Θ Θ' : List Cel} {F F' H H' : Hp} {K : Vp → List Cel → Prop} {Qv : VK}
theorem wi_scr {Kf : PySem.W.Frag} {tl : TE} {K : List Vp → List Cel → Prop} (w : We fr Γ Θ tl fun p Θ1 => ∃ ns : List Int, p = iz (zScr Kf) ns ∧ (ns.length ≤ big → K (ns.map (iz zI)) Θ1)) : Wi fr Γ Θ (iList Kf tl) K := fun σ F H ok env R q =>
  w σ F H ok env _ fun p Θ1 ⟨ns, e, k⟩ v F1 H1 s1 ok1 hp => by
    subst e
    obtain ⟨a, rfl, h2, h3⟩ := hp
    have up : ∀ {F2 H2 : Hp}, Same F1 F2 → Same F2 H2 → SqL Kf H2 a (ns.map V.int) := fun s2 fh => (s2.trans fh).seq h2
    refine ⟨a, rfl, ⟨_, up (Same.refl _) ok1.fh⟩, q _ Θ1 (k (Nat.le_trans h3 (by decide))) _ F1 H1 s1 ok1 fun F2 H2 s2 fh => ⟨fun i p hi => ?_, ?_⟩⟩
    · obtain ⟨x, hx, rfl⟩ := get_izs hi
      have hu : (ns.map V.int)[i]? = some (.int x) := by rw [List.getElem?_map, hx]; rfl
      refine ⟨⟨_, _, up s2 fh, hu⟩, fun y H3 ⟨e, hy⟩ => ?_⟩
      subst e
      have hy := hy _ (up s2 fh)
      rw [hu] at hy
      cases hy
      exact ⟨F2, Same.refl _, Same.refl _, fh, Newer.refl _ _, rfl⟩
    · rw [List.length_map]
      refine ⟨_, up s2 fh, ?_⟩
      rw [List.length_map]
      exact Nat.le_refl _
theorem sy_slScr {Kf : PySem.W.Frag} {ns : List Int} {lo hi : Option Int} (k : K (iz (yL zI) (cutX ns lo hi)) Θ) : Sls fr Θ (rSlL Kf) (iz (zScr Kf) ns) lo hi K := fun F H v ok hv Q q => by
  obtain ⟨a, rfl, h2, h3⟩ := hv
  refine ⟨a, _, rfl, ok.fh.seq h2, fun l nl => q.new k ok nl ⟨⟨l, _, rfl, upd_same, ?_⟩, cutX_len (Nat.le_trans h3 (by decide))⟩⟩
  exact pvs_cut ints_pvs
/-- the box is made -/
theorem we_bag {t : TA} {m : Nat} (w : Wa fr Γ Θ t fun ps Θ1 => ∃ (ns is : List Int), ps = iz (yL zI) ns :: is.map (iz zI) ∧ is.length = m ∧ m ≤ 10 ∧ (∀ i, is[0]? = some i → 0 ≤ i) ∧ ∀ b l, K (zAt b) (cBag m b l :: Θ1)) : We fr Γ Θ (tLst t) K := fun σ F H ok env Q q =>
  w σ F H ok env _ fun ps Θ1 ⟨ns, is, e, h1, h0, h2, k⟩ vs F1 H1 s1 ok1 hps => by
    subst e
    cases hps with
    | cons hl hi =>
      obtain ⟨⟨l, us, rfl, g2, g3⟩, g4⟩ := hl
      have e1 := pvs_I g3
      subst e1
      have e2 := pvs_I (pvs_map hi)
      subst e2
      refine ⟨?_, fun p np => q _ _ (k p l) _ F1 _ s1 (ok1.mkOwn (c := cBag m p l) np rfl ⟨ns, is, h1, h2, rfl, g2, g4⟩) rfl⟩
      rw [List.length_cons, List.length_map]
      exact Nat.le_of_lt (small1000 (by omega))
end
end L2

set_option Elab.async false
set_option linter.all false
set_option maxRecDepth 100000
set_option maxHeartbeats 4000000
/-! == of typed data (bools too), numbers as texts, tuples joined, zip, enumerate, f-strings, errors that are caught. -/
namespace L2
open PySem PySem.Spec PyProof.Rows PySem.HErr
section
variable {fr fr' : Fr} {Γ Γ' : Gam} {Θ Θ' : List Cel} {F F' H H' : Hp} {K : Vp → List Cel → Prop} {Qv : VK}
/-! == of one kind -/
class QDat {α : Type} (r : Rep α) [DecidableEq α] where
  enc : α → PyData
  dep : Nat
  dp : ∀ {Kf : PySem.W.Frag} {F : Hp} {v : V} {x : α}, r.p F v x → Dp Kf F v (enc x)
  cl : ∀ {F : Hp} {v : V} {x : α}, r.p F v x → (enc x).canLay0 = true
  dl : ∀ x : α, (enc x).depth ≤ dep
  eq : ∀ x y : α, PyData.eqv (enc x) (enc y) = decide (x = y)
instance : QDat zI := ⟨PyData.int, 0, fun h => Dat.dp (r := zI) h, fun _ => by simp only [PyData.canLay0], fun x => Dat.dl (r := zI) x, fun x y => by simp only [PyData.eqv]; exact Bool.eq_iff_iff.mpr (by simp)⟩
instance : QDat zB := ⟨PyData.bool, 0, fun h => by cases (show _ = V.bl _ from h); exact .bl _, fun _ => by simp only [PyData.canLay0], fun x => by simp [PyData.depth], fun x y => by cases x <;> cases y <;> simp [PyData.eqv]⟩
instance : QDat yS := ⟨PyData.str, 0, fun h => Dat.dp (r := zS) h.1, fun h => by simp only [PyData.canLay0]; exact h.1.2.ok, fun x => Dat.dl (r := zS) x, fun x y => by simp only [PyData.eqv]; exact Bool.eq_iff_iff.mpr (by simp)⟩
theorem q_all {α : Type} [DecidableEq α] {r : Rep α} [d : QDat r] {Kf : PySem.W.Frag} {vs : List V} {xs : List α} (h : PVs r F vs xs) : DpAll Kf F vs (xs.map d.enc) ∧ PyData.canLayAll0 (xs.map d.enc) = true := by
  induction h with
  | nil => exact ⟨.nil, by simp only [List.map_nil, PyData.canLayAll0]⟩
  | cons a _ ih => exact ⟨.cons (d.dp a) ih.1, by simp only [List.map_cons, PyData.canLayAll0, d.cl a, ih.2, Bool.and_self]⟩
theorem q_dep {α : Type} [DecidableEq α] {r : Rep α} [d : QDat r] (xs : List α) : PyData.depthAll (xs.map d.enc) ≤ d.dep := depthAll_le fun y hy => by
  obtain ⟨x, _, rfl⟩ := List.mem_map.mp hy
  exact d.dl x
theorem q_eqs {α : Type} [DecidableEq α] {r : Rep α} [d : QDat r] : ∀ xs ys : List α, PyData.eqvAll (xs.map d.enc) (ys.map d.enc) = decide (xs = ys)
  | [], [] => by simp [PyData.eqvAll]
  | [], _ :: _ => by simp [PyData.eqvAll]
  | _ :: _, [] => by simp [PyData.eqvAll]
  | x :: xs, y :: ys => by simp [PyData.eqvAll, d.eq, q_eqs xs ys]
instance {α : Type} [DecidableEq α] {r : Rep α} [d : QDat r] : QDat (yL r) := ⟨fun xs => .list (xs.map d.enc), d.dep + 1, fun ⟨⟨a, vs, h1, h2, h3⟩, _⟩ => by subst h1; exact .lst (SqL.of h2) (q_all h3).1, fun ⟨⟨a, vs, h1, h2, h3⟩, _⟩ => by simp only [PyData.canLay0]; exact (q_all (Kf := []) h3).2, fun xs => by
  have := q_dep (r := r) xs
  simp only [PyData.depth]
  omega, fun x y => by simp only [PyData.eqv]; exact q_eqs x y⟩
instance {α : Type} [DecidableEq α] {r : Rep α} [d : QDat r] : QDat (yT r) := ⟨fun xs => .tuple (xs.map d.enc), d.dep + 1, fun ⟨⟨a, vs, h1, h2, h3⟩, _⟩ => by subst h1; exact .tup (SqT.of h2) (q_all h3).1, fun ⟨⟨a, vs, h1, h2, h3⟩, _⟩ => by simp only [PyData.canLay0]; exact (q_all (Kf := []) h3).2, fun xs => by
  have := q_dep (r := r) xs
  simp only [PyData.depth]
  omega, fun x y => by simp only [PyData.eqv]; exact q_eqs x y⟩
instance {α β : Type} [DecidableEq α] [DecidableEq β] {r : Rep α} {s : Rep β} [d : QDat r] [e : QDat s] : QDat (z2 r s) := ⟨fun x => .tuple [d.enc x.1, e.enc x.2], max d.dep e.dep + 1, fun ⟨a, u, w, h1, h2, h3, h4⟩ => by subst h1; exact .tup (SqT.of h2) (.cons (d.dp h3) (.cons (e.dp h4) .nil)),
  fun ⟨a, u, w, h1, h2, h3, h4⟩ => by simp only [PyData.canLay0, PyData.canLayAll0, d.cl h3, e.cl h4, Bool.and_self], fun x => by
    have h1 := d.dl x.1
    have h2 := e.dl x.2
    simp only [PyData.depth, PyData.depthAll]
    omega, fun x y => by
    simp only [PyData.eqv, PyData.eqvAll, d.eq, e.eq, Bool.and_true]
    exact Bool.eq_iff_iff.mpr (by simp [Prod.ext_iff])⟩
instance {α β γ : Type} [DecidableEq α] [DecidableEq β] [DecidableEq γ] {r : Rep α} {s : Rep β} {t : Rep γ} [d : QDat r] [e : QDat s] [f : QDat t] : QDat (z3 r s t) := ⟨fun x => .tuple [d.enc x.1, e.enc x.2.1, f.enc x.2.2], max d.dep (max e.dep f.dep) + 1, fun ⟨a, u, w, z, h1, h2, h3, h4, h5⟩ => by subst h1; exact .tup (SqT.of h2) (.cons (d.dp h3) (.cons (e.dp h4) (.cons (f.dp h5) .nil))),
  fun ⟨a, u, w, z, h1, h2, h3, h4, h5⟩ => by simp only [PyData.canLay0, PyData.canLayAll0, d.cl h3, e.cl h4, f.cl h5, Bool.and_self], fun x => by
    have h1 := d.dl x.1
    have h2 := e.dl x.2.1
    have h3 := f.dl x.2.2
    simp only [PyData.depth, PyData.depthAll]
    omega, fun x y => by
    simp only [PyData.eqv, PyData.eqvAll, d.eq, e.eq, f.eq, Bool.and_true]
    exact Bool.eq_iff_iff.mpr (by simp [Prod.ext_iff])⟩
instance {α β γ δ : Type} [DecidableEq α] [DecidableEq β] [DecidableEq γ] [DecidableEq δ] {r : Rep α} {s : Rep β} {t : Rep γ} {u : Rep δ} [d : QDat r] [e : QDat s] [f : QDat t] [g : QDat u] : QDat (z4 r s t u) := ⟨fun x => .tuple [d.enc x.1, e.enc x.2.1, f.enc x.2.2.1, g.enc x.2.2.2], max (max d.dep e.dep) (max f.dep g.dep) + 1, fun ⟨a, v1, v2, v3, v4, h1, h2, h3, h4, h5, h6⟩ => by subst h1; exact .tup (SqT.of h2) (.cons (d.dp h3) (.cons (e.dp h4) (.cons (f.dp h5) (.cons (g.dp h6) .nil)))),
  fun ⟨a, v1, v2, v3, v4, h1, h2, h3, h4, h5, h6⟩ => by simp only [PyData.canLay0, PyData.canLayAll0, d.cl h3, e.cl h4, f.cl h5, g.cl h6, Bool.and_self], fun x => by
    have h1 := d.dl x.1
    have h2 := e.dl x.2.1
    have h3 := f.dl x.2.2.1
    have h4 := g.dl x.2.2.2
    simp only [PyData.depth, PyData.depthAll]
    omega, fun x y => by
    simp only [PyData.eqv, PyData.eqvAll, d.eq, e.eq, f.eq, g.eq, Bool.and_true]
    exact Bool.eq_iff_iff.mpr (by simp [Prod.ext_iff])⟩
instance {α β γ δ ε : Type} [DecidableEq α] [DecidableEq β] [DecidableEq γ] [DecidableEq δ] [DecidableEq ε] {r : Rep α} {s : Rep β} {t : Rep γ} {u : Rep δ} {w : Rep ε} [d : QDat r] [e : QDat s] [f : QDat t] [g : QDat u] [i : QDat w] : QDat (z5 r s t u w) := ⟨fun x => .tuple [d.enc x.1, e.enc x.2.1, f.enc x.2.2.1, g.enc x.2.2.2.1, i.enc x.2.2.2.2], max (max d.dep e.dep) (max f.dep (max g.dep i.dep)) + 1, fun ⟨a, v1, v2, v3, v4, v5, h1, h2, h3, h4, h5, h6, h7⟩ => by subst h1; exact .tup (SqT.of h2) (.cons (d.dp h3) (.cons (e.dp h4) (.cons (f.dp h5) (.cons (g.dp h6) (.cons (i.dp h7) .nil))))),
  fun ⟨a, v1, v2, v3, v4, v5, h1, h2, h3, h4, h5, h6, h7⟩ => by simp only [PyData.canLay0, PyData.canLayAll0, d.cl h3, e.cl h4, f.cl h5, g.cl h6, i.cl h7, Bool.and_self], fun x => by
    have h1 := d.dl x.1
    have h2 := e.dl x.2.1
    have h3 := f.dl x.2.2.1
    have h4 := g.dl x.2.2.2.1
    have h5 := i.dl x.2.2.2.2
    simp only [PyData.depth, PyData.depthAll]
    omega, fun x y => by
    simp only [PyData.eqv, PyData.eqvAll, d.eq, e.eq, f.eq, g.eq, i.eq, Bool.and_true]
    exact Bool.eq_iff_iff.mpr (by simp [Prod.ext_iff])⟩
instance {α : Type} [DecidableEq α] {r : Rep α} [d : QDat r] : QDat (z1 r) := ⟨fun x => .tuple [d.enc x], d.dep + 1, fun ⟨a, v1, h1, h2, h3⟩ => by subst h1; exact .tup (SqT.of h2) (.cons (d.dp h3) .nil),
  fun ⟨a, v1, h1, h2, h3⟩ => by simp only [PyData.canLay0, PyData.canLayAll0, d.cl h3, Bool.and_self], fun x => by
    have h1 := d.dl x
    simp only [PyData.depth, PyData.depthAll]
    omega, fun x y => by simp only [PyData.eqv, PyData.eqvAll, d.eq, Bool.and_true]⟩
instance {α β : Type} [DecidableEq α] [DecidableEq β] {r : Rep α} {s : Rep β} [d : QDat r] [e : QDat s] : QDat (zLp r s) := ⟨fun x => .list [d.enc x.1, e.enc x.2], max d.dep e.dep + 1, fun ⟨a, u, w, h1, h2, h3, h4⟩ => by subst h1; exact .lst (SqL.of h2) (.cons (d.dp h3) (.cons (e.dp h4) .nil)),
  fun ⟨a, u, w, h1, h2, h3, h4⟩ => by simp only [PyData.canLay0, PyData.canLayAll0, d.cl h3, e.cl h4, Bool.and_self], fun x => by
    have h1 := d.dl x.1
    have h2 := e.dl x.2
    simp only [PyData.depth, PyData.depthAll]
    omega, fun x y => by
    simp only [PyData.eqv, PyData.eqvAll, d.eq, e.eq, Bool.and_true]
    exact Bool.eq_iff_iff.mpr (by simp [Prod.ext_iff])⟩
instance {α β γ : Type} [DecidableEq α] [DecidableEq β] [DecidableEq γ] {r : Rep α} {s : Rep β} {t : Rep γ} [d : QDat r] [e : QDat s] [f : QDat t] : QDat (zL3 r s t) := ⟨fun x => .list [d.enc x.1, e.enc x.2.1, f.enc x.2.2], max d.dep (max e.dep f.dep) + 1, fun ⟨a, u, w, z, h1, h2, h3, h4, h5⟩ => by subst h1; exact .lst (SqL.of h2) (.cons (d.dp h3) (.cons (e.dp h4) (.cons (f.dp h5) .nil))),
  fun ⟨a, u, w, z, h1, h2, h3, h4, h5⟩ => by simp only [PyData.canLay0, PyData.canLayAll0, d.cl h3, e.cl h4, f.cl h5, Bool.and_self], fun x => by
    have h1 := d.dl x.1
    have h2 := e.dl x.2.1
    have h3 := f.dl x.2.2
    simp only [PyData.depth, PyData.depthAll]
    omega, fun x y => by
    simp only [PyData.eqv, PyData.eqvAll, d.eq, e.eq, f.eq, Bool.and_true]
    exact Bool.eq_iff_iff.mpr (by simp [Prod.ext_iff])⟩
theorem q_shape {α : Type} [DecidableEq α] {r : Rep α} [d : QDat r] {v : V} {x : α} (hd : d.dep ≤ 64) (h : r.p F v x) : SeqAt.shaped (d.enc x) = true := by
  unfold SeqAt.shaped
  rw [d.cl h, decide_eq_true (Nat.le_trans (d.dl x) hd)]
  rfl
theorem oq_eq {Kf : PySem.W.Frag} {α : Type} [DecidableEq α] {r : Rep α} [d : QDat r] {x y : α} (hd : d.dep ≤ 64) (k : K (iz zB (decide (x = y))) Θ) : Ops fr Θ (rEqD Kf) (iz r x) (iz r y) K := fun F H v w ok hv hw Q q =>
  ⟨d.enc x, d.enc y, (d.dp hv).up ok.fh, (d.dp hw).up ok.fh, q_shape hd hv, q_shape hd hw, by rw [d.eq]; exact q.go k ok rfl⟩
theorem oq_ne {Kf : PySem.W.Frag} {α : Type} [DecidableEq α] {r : Rep α} [d : QDat r] {x y : α} (hd : d.dep ≤ 64) (k : K (iz zB (!decide (x = y))) Θ) : Ops fr Θ (rNeD Kf) (iz r x) (iz r y) K := fun F H v w ok hv hw Q q =>
  ⟨d.enc x, d.enc y, (d.dp hv).up ok.fh, (d.dp hw).up ok.fh, q_shape hd hv, q_shape hd hw, by rw [d.eq]; exact q.go k ok rfl⟩
/-! one of two kinds -/
def yU {α β : Type} (r : Rep α) (s : Rep β) : Rep (α ⊕ β) := ⟨fun F v x => match x with | .inl a => r.p F v a | .inr b => s.p F v b, fun {F F' v x} e h => by
  cases x with
  | inl a => exact r.mono e h
  | inr b => exact s.mono e h⟩
theorem le_Ul {α β : Type} {r : Rep α} {s : Rep β} {x : α} : (iz r x).Le (iz (yU r s) (.inl x)) := fun F v h => h
theorem le_Ur {α β : Type} {r : Rep α} {s : Rep β} {x : β} : (iz s x).Le (iz (yU r s) (.inr x)) := fun F v h => h
/-- unlike kinds are never equal -/
class QApart {α β : Type} [DecidableEq α] [DecidableEq β] (r : Rep α) (s : Rep β) [d : QDat r] [e : QDat s] : Prop where
  ne : ∀ x y, PyData.eqv (d.enc x) (e.enc y) = false
  ne' : ∀ x y, PyData.eqv (e.enc y) (d.enc x) = false
instance {α β γ : Type} [DecidableEq α] [DecidableEq β] [DecidableEq γ] {r : Rep α} {s : Rep β} {t : Rep γ} [d : QDat r] [e : QDat s] [f : QDat t] : QApart yS (zL3 r s t) := ⟨fun x y => by simp [QDat.enc, PyData.eqv], fun x y => by simp [QDat.enc, PyData.eqv]⟩
instance {α β : Type} [DecidableEq α] [DecidableEq β] {r : Rep α} {s : Rep β} [d : QDat r] [e : QDat s] : QApart yS (zLp r s) := ⟨fun x y => by simp [QDat.enc, PyData.eqv], fun x y => by simp [QDat.enc, PyData.eqv]⟩
instance {α : Type} [DecidableEq α] {r : Rep α} [d : QDat r] : QApart yS (yL r) := ⟨fun x y => by simp [QDat.enc, PyData.eqv], fun x y => by simp [QDat.enc, PyData.eqv]⟩
instance {α : Type} [DecidableEq α] {r : Rep α} [d : QDat r] : QApart yS (yT r) := ⟨fun x y => by simp [QDat.enc, PyData.eqv], fun x y => by simp [QDat.enc, PyData.eqv]⟩
theorem oq_eqUl {Kf : PySem.W.Frag} {α β : Type} [DecidableEq α] [DecidableEq β] {r : Rep α} {s : Rep β} [d : QDat r] [e : QDat s] [ap : QApart r s] {x : α ⊕ β} {y : α} (hd : d.dep ≤ 64 ∧ e.dep ≤ 64) (k : K (iz zB (decide (x = .inl y))) Θ) : Ops fr Θ (rEqD Kf) (iz (yU r s) x) (iz r y) K := fun F H v w ok hv hw Q q => by
  cases x with
  | inl a =>
    refine oq_eq (r := r) hd.1 (K := K) ?_ F H v w ok hv hw Q q
    rw [show decide (a = y) = decide ((Sum.inl a : α ⊕ β) = .inl y) by simp]
    exact k
  | inr b => exact ⟨e.enc b, d.enc y, (e.dp hv).up ok.fh, (d.dp hw).up ok.fh, q_shape hd.2 hv, q_shape hd.1 hw, by
      rw [ap.ne']
      rw [show decide ((Sum.inr b : α ⊕ β) = .inl y) = false by simp] at k
      exact q.go k ok rfl⟩
theorem oq_neUl {Kf : PySem.W.Frag} {α β : Type} [DecidableEq α] [DecidableEq β] {r : Rep α} {s : Rep β} [d : QDat r] [e : QDat s] [ap : QApart r s] {x : α ⊕ β} {y : α} (hd : d.dep ≤ 64 ∧ e.dep ≤ 64) (k : K (iz zB (!decide (x = .inl y))) Θ) : Ops fr Θ (rNeD Kf) (iz (yU r s) x) (iz r y) K := fun F H v w ok hv hw Q q => by
  cases x with
  | inl a =>
    refine oq_ne (r := r) hd.1 (K := K) ?_ F H v w ok hv hw Q q
    rw [show decide (a = y) = decide ((Sum.inl a : α ⊕ β) = .inl y) by simp]
    exact k
  | inr b => exact ⟨e.enc b, d.enc y, (e.dp hv).up ok.fh, (d.dp hw).up ok.fh, q_shape hd.2 hv, q_shape hd.1 hw, by
      rw [ap.ne']
      rw [show decide ((Sum.inr b : α ⊕ β) = .inl y) = false by simp] at k
      exact q.go k ok rfl⟩
theorem oq_eqUr {Kf : PySem.W.Frag} {α β : Type} [DecidableEq α] [DecidableEq β] {r : Rep α} {s : Rep β} [d : QDat r] [e : QDat s] [ap : QApart r s] {x : α ⊕ β} {y : β} (hd : d.dep ≤ 64 ∧ e.dep ≤ 64) (k : K (iz zB (decide (x = .inr y))) Θ) : Ops fr Θ (rEqD Kf) (iz (yU r s) x) (iz s y) K := fun F H v w ok hv hw Q q => by
  cases x with
  | inr a =>
    refine oq_eq (r := s) hd.2 (K := K) ?_ F H v w ok hv hw Q q
    rw [show decide (a = y) = decide ((Sum.inr a : α ⊕ β) = .inr y) by simp]
    exact k
  | inl b => exact ⟨d.enc b, e.enc y, (d.dp hv).up ok.fh, (e.dp hw).up ok.fh, q_shape hd.1 hv, q_shape hd.2 hw, by
      rw [ap.ne]
      rw [show decide ((Sum.inl b : α ⊕ β) = .inr y) = false by simp] at k
      exact q.go k ok rfl⟩
theorem oq_neUr {Kf : PySem.W.Frag} {α β : Type} [DecidableEq α] [DecidableEq β] {r : Rep α} {s : Rep β} [d : QDat r] [e : QDat s] [ap : QApart r s] {x : α ⊕ β} {y : β} (hd : d.dep ≤ 64 ∧ e.dep ≤ 64) (k : K (iz zB (!decide (x = .inr y))) Θ) : Ops fr Θ (rNeD Kf) (iz (yU r s) x) (iz s y) K := fun F H v w ok hv hw Q q => by
  cases x with
  | inr a =>
    refine oq_ne (r := s) hd.2 (K := K) ?_ F H v w ok hv hw Q q
    rw [show decide (a = y) = decide ((Sum.inr a : α ⊕ β) = .inr y) by simp]
    exact k
  | inl b => exact ⟨d.enc b, e.enc y, (d.dp hv).up ok.fh, (e.dp hw).up ok.fh, q_shape hd.1 hv, q_shape hd.2 hw, by
      rw [ap.ne]
      rw [show decide ((Sum.inl b : α ⊕ β) = .inr y) = false by simp] at k
      exact q.go k ok rfl⟩
def uEl {α β : Type} (p q : Bool) : α ⊕ β → Bool
  | .inl _ => p
  | .inr _ => q
theorem cy_isiU {Kf : PySem.W.Frag} {α β : Type} {r : Rep α} {s : Rep β} {x : α ⊕ β} {n a b : String} {p q : Bool} (ha : ∀ y, TyP fr Θ Kf (iz r y) (.type a)) (hb : ∀ y, TyP fr Θ Kf (iz s y) (.type b)) (ea : kitB a n = some p) (eb : kitB b n = some q) (k : K (iz zB (uEl p q x)) Θ) : Cbs fr Θ (rIsi Kf) [iz (yU r s) x, zTy n] K := by
  cases x with
  | inl y => exact cb_isi (ha y) ea k
  | inr y => exact cb_isi (hb y) eb k
theorem ty_F3 {Kf : PySem.W.Frag} {α β γ : Type} {r : Rep α} {s : Rep β} {t : Rep γ} {x : α × β × γ} : TyP fr Θ Kf (iz (zL3 r s t) x) (.type "list") := fun F H v ok ⟨a, u, w, z, h1, h2, h3⟩ => by subst h1; exact .base (.lst (ok.fh _ _ h2))
theorem ty_F2 {Kf : PySem.W.Frag} {α β : Type} {r : Rep α} {s : Rep β} {x : α × β} : TyP fr Θ Kf (iz (zLp r s) x) (.type "list") := fun F H v ok ⟨a, u, w, h1, h2, h3⟩ => by subst h1; exact .base (.lst (ok.fh _ _ h2))
/-! numbers as texts -/
def numS (n : Int) : Str := Str.ofString (toString n)
theorem asc_ofL {s : String} (h : ∀ c ∈ s.toList, c.toNat < 128) : Asc (Str.ofString s) := fun c hc => by
  rw [PyProof.Rows.signs_ofString] at hc
  obtain ⟨d, hd, rfl⟩ := List.mem_map.mp hc
  exact h d hd
theorem num_ascN (n : Nat) : Asc (numS (n : Int)) := fun c hc => by
  have e : (numS (n : Int)).cps.toList = TL.numL n := TL.tl_num n
  rw [e] at hc
  have := TL.numL_digits n c hc
  omega
theorem num_neg (n : Nat) : (numS (Int.negSucc n)).cps.toList = 45 :: TL.numL (n + 1) := by
  unfold numS
  rw [PyProof.Rows.signs_ofString]
  show ((("-" : String) ++ Nat.repr (n + 1)).toList).map Char.toNat = _
  rw [String.toList_append, List.map_append, Nat.toList_repr]
  rfl
theorem num_asc (n : Int) : Asc (numS n) := by
  cases n with
  | ofNat n => exact num_ascN n
  | negSucc n =>
    intro c hc
    rw [num_neg] at hc
    rcases List.mem_cons.mp hc with rfl | hc
    · decide
    · have := TL.numL_digits (n + 1) c hc
      omega
def CStr (n : Int) : Prop := n.natAbs < 10 ^ 200
theorem CStr.log {n : Int} (h : CStr n) : n.natAbs.log2 < 1920 := by
  unfold CStr at h
  by_cases e : n.natAbs = 0
  · rw [e]; decide
  · rw [Nat.log2_lt e]
    exact Nat.lt_trans h (by decide)
theorem num_len {n : Int} (h : CStr n) : (numS n).length ≤ 1921 := by
  have e := PySem.int_text_length_le (k := 1920) (by decide) h.log
  show (Str.ofString (toString n)).length ≤ _
  rw [PySem.ofString_length]
  exact e
theorem le_num {n : Int} (h : CStr n) : ∀ F, (iz yS (numS n)).p F (.str (Str.ofString (toString n))) := fun F => ⟨⟨rfl, num_asc n⟩, Nat.le_trans (num_len h) (by decide)⟩
theorem cy_str {n : Int} (h : CStr n) (k : K (iz yS (numS n)) Θ) : Cbs fr Θ (fun xs H Q => ∃ i : Int, xs = [.int i] ∧ i.natAbs.log2 < 1920 ∧ Q (.str (toString i)) H) [iz zI n] K := fun F H vs ok hps Q q => by
  cases hps with
  | cons h1 hp => cases hp with
    | nil =>
      have h1 : _ = V.int n := h1
      subst h1
      exact ⟨n, rfl, h.log, q.go k ok (le_num h F)⟩
/-! tuples joined, cut -/
theorem kop_catA {X : Cx} {K : PySem.W.Frag} (h : X.K = K := by rfl) : OpR X (binaryOp .Add) (rCatA K) := by
  subst h
  exact op_catA
theorem ksl_tupA {X : Cx} {K : PySem.W.Frag} (h : X.K = K := by rfl) : SlR X (rSlA K) := by
  subst h
  exact sl_tupA
theorem oy_catT {Kf : PySem.W.Frag} {α : Type} {r : Rep α} {xs ys : List α} (hl : xs.length + ys.length ≤ big) (k : K (iz (yT r) (xs ++ ys)) Θ) : Ops fr Θ (rCatA Kf) (iz (yT r) xs) (iz (yT r) ys) K := fun F H v w ok ⟨⟨a, vs, h1, h2, h3⟩, h4⟩ ⟨⟨b, us, g1, g2, g3⟩, g4⟩ Q q => by
  subst h1 g1
  have hl' : (xs ++ ys).length ≤ big := by rw [List.length_append]; exact hl
  refine ⟨a, b, vs, us, rfl, rfl, SqT.of (ok.fh _ _ h2), SqT.of (ok.fh _ _ g2), by rw [Paired.len h3, Paired.len g3]; exact big_line hl, fun e => ?_, fun e1 e2 => ?_, fun e1 e2 p np => ?_⟩
  · subst e
    cases h3
    exact q.go k ok ⟨⟨b, us, rfl, g2, g3⟩, hl'⟩
  · subst e2
    cases g3
    refine q.go k ok ⟨⟨a, vs, rfl, h2, ?_⟩, hl'⟩
    rw [List.append_nil]
    exact h3
  · exact q.new k ok np ⟨⟨p, _, rfl, upd_same, Paired.imp2 (fun _ _ h => r.mono (ok.sameF np) h) (Paired.app h3 g3)⟩, hl'⟩
theorem cut_whole {α : Type} {xs : List α} {lo hi : Option Int} (h : HT.sIx xs.length 0 lo = 0 ∧ HT.sIx xs.length xs.length hi = xs.length) : cutX xs lo hi = xs := by
  unfold cutX
  rw [h.1, h.2]
  simp
theorem oy_slA {Kf : PySem.W.Frag} {α : Type} {r : Rep α} {xs : List α} {lo hi : Option Int} (k : K (iz (yT r) (cutX xs lo hi)) Θ) : Sls fr Θ (rSlA Kf) (iz (yT r) xs) lo hi K := fun F H v ok ⟨⟨a, vs, h1, h2, h3⟩, h4⟩ Q q => by
  subst h1
  refine ⟨a, vs, rfl, SqT.of (ok.fh _ _ h2), fun e => ?_, fun e p np => ?_⟩
  · rw [Paired.len h3] at e
    rw [cut_whole e] at k
    exact q.go k ok ⟨⟨a, vs, rfl, h2, h3⟩, h4⟩
  · exact q.new k ok np ⟨⟨p, _, rfl, upd_same, Paired.imp2 (fun _ _ h => r.mono (ok.sameF np) h) (pvs_cut h3)⟩, cutX_len h4⟩
/-! f-strings -/
def Wj (fr : Fr) (Γ : Gam) (Θ : List Cel) (ts : List TE) (acc : Str) (K : Str → List Cel → Prop) : Prop := Asc acc → ∀ σ F H, OkF fr Θ F H → EnvF Γ σ F → ∀ Q : Str → Hp → Prop, (∀ z Θ', K z Θ' → Asc z → ∀ F' H', Same F F' → OkF fr Θ' F' H' → Q z H') → tJs ts acc σ H Q
theorem we_fs {ts : List TE} (w : Wj fr Γ Θ ts Str.empty fun z Θ1 => z.length ≤ big ∧ K (iz yS z) Θ1) : We fr Γ Θ (fun σ H Q => tJs ts Str.empty σ H fun out H1 => Q (.str out) H1) K := fun σ F H ok env Q q =>
  w (fun c hc => by cases hc) σ F H ok env _ fun z Θ' ⟨hl, k⟩ ha F' H' s' ok' => q _ Θ' k _ F' H' s' ok' ⟨⟨rfl, ha⟩, hl⟩
theorem wj_nil {acc : Str} {K : Str → List Cel → Prop} (k : K acc Θ) : Wj fr Γ Θ [] acc K := fun ha σ F H ok env Q q => q acc Θ k ha F H (Same.refl F) ok
theorem wj_cons {t : TE} {ts : List TE} {acc : Str} {K : Str → List Cel → Prop} (w : We fr Γ Θ t fun p Θ1 => ∃ z, p = iz yS z ∧ acc.length + z.length ≤ big ∧ Wj fr Γ Θ1 ts (acc ++ z) K) : Wj fr Γ Θ (t :: ts) acc K := fun ha σ F H ok env Q q =>
  w σ F H ok env _ fun p Θ1 ⟨z, e, hl, k⟩ v F1 H1 s1 ok1 hp => by
    subst e
    obtain ⟨⟨e1, hz⟩, _⟩ := hp
    exact ⟨z, e1, by rw [show (acc ++ z).length = acc.length + z.length from by show (acc.cps ++ z.cps).size = _; rw [Array.size_append]; rfl]; exact big_line hl, k (ha.app hz) σ F1 H1 ok1 (env.mono s1) Q fun z' Θ' kk hz' F' H' s' ok' => q z' Θ' kk hz' F' H' (s1.trans s') ok'⟩
theorem we_fmtS {t : TE} (w : We fr Γ Θ t fun p Θ1 => ∃ z, p = iz yS z ∧ K (iz yS z) Θ1) : We fr Γ Θ (tFmt t) K := fun σ F H ok env Q q =>
  w σ F H ok env _ fun p Θ1 ⟨z, e, k⟩ v F1 H1 s1 ok1 hp => by
    subst e
    exact .inl ⟨z, hp.1.1, big_line hp.2, q _ Θ1 k _ F1 H1 s1 ok1 ⟨⟨rfl, hp.1.2⟩, hp.2⟩⟩
theorem we_fmtI {t : TE} (w : We fr Γ Θ t fun p Θ1 => ∃ n, p = iz zI n ∧ CStr n ∧ K (iz yS (numS n)) Θ1) : We fr Γ Θ (tFmt t) K := fun σ F H ok env Q q =>
  w σ F H ok env _ fun p Θ1 ⟨n, e, hn, k⟩ v F1 H1 s1 ok1 hp => by
    subst e
    exact .inr ⟨n, hp, hn.log, q _ Θ1 k _ F1 H1 s1 ok1 (le_num hn F1)⟩
/-! zip -/
theorem get_zip {α β : Type} {xs : List α} {ys : List β} {i : Nat} {z : α × β} (h : (xs.zip ys)[i]? = some z) : xs[i]? = some z.1 ∧ ys[i]? = some z.2 := by
  rw [List.getElem?_zip_eq_some] at h
  exact h
theorem wi_zipT {Kf : PySem.W.Frag} {ta : TA} {K : List Vp → List Cel → Prop} (w : Wa fr Γ Θ ta fun ps Θ1 => ∃ (α β : Type) (r : Rep α) (s : Rep β) (xs : List α) (ys : List β), ps = [iz (yT r) xs, iz (yT s) ys] ∧ ((xs.zip ys).length ≤ big → K ((xs.zip ys).map (iz (z2 r s))) Θ1)) : Wi fr Γ Θ (RZ.iZipA Kf ta) K := fun σ F H ok env R q =>
  w σ F H ok env _ fun ps Θ1 ⟨α, β, r, s, xs, ys, e, k⟩ vs F1 H1 s1 ok1 hps => by
    subst e
    cases hps with
    | cons h1 hp => cases hp with
      | cons h2 hp => cases hp with
        | nil =>
          obtain ⟨⟨a, us, rfl, a2, a3⟩, a4⟩ := h1
          obtain ⟨⟨b, ws, rfl, b2, b3⟩, b4⟩ := h2
          have hk := k (by rw [List.length_zip]; omega)
          refine ⟨a, b, us, ws, rfl, .inr ⟨SqT.of (ok1.fh _ _ a2), SqT.of (ok1.fh _ _ b2), q _ Θ1 hk _ F1 H1 s1 ok1 fun F2 H2 s2 fh => ?_⟩⟩
          have qa : SqT Kf H2 a us := SqT.of (fh _ _ (s2 _ _ a2))
          have qb : SqT Kf H2 b ws := SqT.of (fh _ _ (s2 _ _ b2))
          refine ⟨fun i p hi => ?_, ?_⟩
          · obtain ⟨z, hz, rfl⟩ := get_izs hi
            obtain ⟨z1, z2⟩ := get_zip hz
            obtain ⟨u, hu, hux⟩ := Paired.get' a3 z1
            obtain ⟨v, hv, hvx⟩ := Paired.get' b3 z2
            refine ⟨⟨us, ws, u, v, qa, qb, hu, hv⟩, fun x H3 ⟨T, x1, y1, e1, e2, e3, e4, e5⟩ => ?_⟩
            subst e1 e3
            have e4 := e4 us qa
            have e5 := e5 ws qb
            rw [hu] at e4
            rw [hv] at e5
            cases e4
            cases e5
            have nF : F2 T = none := fh.free e2
            have sF : Same F2 (upd F2 T (.tup [u, v])) := same_upd nF
            refine ⟨upd F2 T (.tup [u, v]), sF, same_upd e2, fun c o hc => ?_, fun c o hc => ?_, ⟨T, u, v, rfl, upd_same, r.mono (s2.trans sF) hux, s.mono (s2.trans sF) hvx⟩⟩
            · by_cases q : c = T
              · subst q
                rw [upd_same] at hc ⊢
                exact hc
              · rw [upd_ne q] at hc ⊢
                exact fh _ _ hc
            · by_cases q : c = T
              · subst q
                exact .inr e2
              · rw [upd_ne q] at hc
                exact .inl ⟨o, hc⟩
          · rw [List.length_map, List.length_zip]
            refine ⟨us, ws, qa, qb, ?_⟩
            rw [Paired.len a3, Paired.len b3]
            omega
end
end L2

set_option Elab.async false
set_option linter.all false
set_option maxRecDepth 100000
set_option maxHeartbeats 4000000
/-! Comprehensions over one's own lists; try. -/
namespace L2
open PySem PySem.Spec PyProof.Rows PySem.HErr
def JOkC (fr : Fr) (Θ : List Cel) (J : It) (F : Hp) (its : List Vp) : Prop := ∀ c F1 H1, Same F F1 → OkF fr (c :: Θ) F1 H1 → (∀ i p, its[i]? = some p → J.go i H1 ∧ ∀ x H2, J.yld i H1 x H2 → ∃ F2, Same F1 F2 ∧ Same H1 H2 ∧ Same F2 H2 ∧ Newer F1 H1 F2 ∧ p.p F2 x) ∧ J.stop its.length H1
def WiC (fr : Fr) (Γ : Gam) (Θ : List Cel) (wi : TI) (K : List Vp → List Cel → Prop) : Prop := ∀ σ F H, OkF fr Θ F H → EnvF Γ σ F → ∀ R : It → Hp → Prop, (∀ its Θ', K its Θ' → ∀ J F' H', Same F F' → OkF fr Θ' F' H' → JOkC fr Θ' J F' its → R J H') → wi σ H R
section
variable {fr fr' : Fr} {Γ Γ' : Gam} {Θ Θ' : List Cel} {F F' H H' : Hp} {K : Vp → List Cel → Prop} {Qv : VK}
theorem wi_yC {Kf : PySem.W.Frag} {α : Type} {r : Rep α} {xs : List α} {a : Addr} {i j : Nat} {K : List Vp → List Cel → Prop} (hi : Γ[i]? = some (some (zAt a))) (hj : Θ[j]? = some (cY a r xs)) (k : xs.length ≤ big → K (xs.map (iz r)) Θ) : WiC fr Γ Θ (iList Kf (tVar i)) K := fun σ F H ok env R q => by
  obtain ⟨v, h1, h2⟩ := env.get hi
  have h2 : v = .ref a := h2
  subst h2
  have at_ : ∀ {c F1 H1}, OkF fr (c :: Θ) F1 H1 → ∃ vs, H1 a = some (.lst vs) ∧ PVs r F1 vs xs := fun {c F1 H1} ok1 => by
    obtain ⟨_, ⟨o, g2, ⟨⟨vs, rfl, g4⟩, g5⟩⟩, _⟩ := ok1.ce _ (List.mem_cons_of_mem _ (List.mem_of_getElem? hj))
    exact ⟨vs, g2, g4⟩
  obtain ⟨_, ⟨o, g2, ⟨⟨vs, rfl, g4⟩, g5⟩⟩, _⟩ := ok.ce _ (List.mem_of_getElem? hj)
  refine ⟨_, h1, a, rfl, ⟨vs, SqL.of g2⟩, q _ Θ (k g5) _ F H (Same.refl F) ok fun c F2 H2 s2 ok2 => ?_⟩
  obtain ⟨us, e1, e2⟩ := at_ ok2
  have sq : SqL Kf H2 a us := SqL.of e1
  refine ⟨fun i p hi => ?_, ?_⟩
  · obtain ⟨x, hx, rfl⟩ := get_izs hi
    obtain ⟨u, hu, hux⟩ := Paired.get' e2 hx
    refine ⟨⟨us, u, sq, hu⟩, fun y H3 ⟨e, hy⟩ => ?_⟩
    subst e
    have hy := hy us sq
    rw [hu] at hy
    cases hy
    exact ⟨F2, Same.refl _, Same.refl _, ok2.fh, Newer.refl _ _, hux⟩
  · rw [List.length_map, ← Paired.len e2]
    exact ⟨us, sq, Nat.le_refl _⟩
theorem we_lcWC {α β : Type} {r : Rep α} {s : Rep β} {wi : TI} {g : TG} {tt : TT} {te : TE} {vs : List Nat}
    (w : WiC fr Γ Θ wi fun its Θ1 => ∃ (xs : List α) (f : α → (Option β → Prop) → Prop) (k : List β → Prop) (Γ2 : α → Gam), its = xs.map (iz r) ∧ Θ1 = Θ ∧ xs.length ≤ big ∧ (∀ x, TgR g vs (iz r x) (wipeG Γ vs) (Γ2 x)) ∧ compD xs [] f k ∧
      (∀ x c kx, f x kx → Wt fr (Γ2 x) (c :: Θ) tt fun b Θ1 => (b = true → We fr (Γ2 x) Θ1 te fun q Θ' => Θ' = c :: Θ ∧ ∃ y, q = iz s y ∧ kx (some y)) ∧ (b = false → Θ1 = c :: Θ ∧ kx none)) ∧
      (∀ ys, k ys → ys.length ≤ big → K (iz (yL s) ys) Θ)) : We fr Γ Θ (tLc wi g tt te vs) K := fun σ F H ok env Q q => by
  refine w σ F H ok env _ fun its Θ1 ⟨xs, f, k, Γ2, e1, e2, hl, tg, hc, hs, hk⟩ J F1 H1 s1 ok1 jok => ?_
  subst e1 e2
  intro D nD
  refine ⟨fun i m H' => m = xs.length - i ∧ i ≤ xs.length ∧ ∃ F2 ys, Same F1 F2 ∧ OkF fr (cL D s ys :: Θ1) F2 H' ∧ ys.length ≤ i ∧ compD (xs.drop i) ys f k, ⟨xs.length, by simp, Nat.zero_le _, F1, [], Same.refl _, ok1.mkOwn (c := cL D s []) nD rfl ⟨[], rfl, .nil⟩, Nat.le_refl _, hc⟩, ?_⟩
  rintro i m H' ⟨rfl, hi, F2, ys, s2, ok2, yl, py⟩
  obtain ⟨j1, j2⟩ := jok _ F2 H' s2 ok2
  by_cases hlt : i < xs.length
  · have hx : xs[i]? = some xs[i] := List.getElem?_eq_getElem hlt
    generalize xs[i] = x at hx
    obtain ⟨jg, jy⟩ := j1 i (iz r x) (by rw [List.getElem?_map, hx]; rfl)
    refine .inr ⟨jg, fun H3 => ∃ F3 ys, Same F1 F3 ∧ OkF fr (cL D s ys :: Θ1) F3 H3 ∧ ys.length ≤ i + 1 ∧ compD (xs.drop (i + 1)) ys f k, fun H3 p => ⟨xs.length - (i + 1), by omega, rfl, hlt, p⟩, fun v H3 y => ?_⟩
    obtain ⟨F3, e1, e2, e3, e4, e5⟩ := jy v H3 y
    have ok3 := ok2.grow e2 e1 e3 e4
    have s3 := s2.trans e1
    have hd : xs.drop i = x :: xs.drop (i + 1) := by
      obtain ⟨hl, e⟩ := List.getElem?_eq_some_iff.mp hx
      rw [List.drop_eq_getElem_cons hl, e]
    rw [hd] at py
    refine tg x (L2.wipe σ vs) F3 H3 v ok3.fh ((env.mono (s1.trans s3)).wipe vs) e5 _ fun σ2 env2 hw => ⟨?_, ?_⟩
    · rw [hw, wipe_idem]
    · refine hs x _ _ py σ2 F3 H3 ok3 env2 _ fun b Θ2 ⟨k1, k2⟩ F4 H4 s4 ok4 => ?_
      cases b with
      | true =>
        rw [if_pos rfl]
        refine k1 rfl σ2 F4 H4 ok4 (env2.mono s4) _ fun p Θ3 ⟨e8, y, e9, hy⟩ u F5 H5 s5 ok5 hp => ?_
        subst e8 e9
        obtain ⟨_, ⟨o, h2, acc, rfl, h4⟩, _⟩ := ok5.ce _ (List.mem_cons_self ..)
        have ok6 := ok5.mut (i := 0) (c := cL D s ys) (c' := cL D s (ys ++ [y])) (o := .lst (acc ++ [u])) rfl rfl rfl ⟨_, rfl, PySem.Paired.snoc h4 hp⟩
        refine ⟨acc, h2, ?_, F5, ys ++ [y], (s3.trans s4).trans s5, ok6, by rw [List.length_append]; show _ + 1 ≤ _; omega, hy⟩
        rw [Paired.len h4]
        exact big_lt (by omega)
      | false =>
        rw [if_neg Bool.false_ne_true]
        obtain ⟨e8, hn⟩ := k2 rfl
        subst e8
        have hn : compD (xs.drop (i + 1)) (ys ++ []) f k := hn
        rw [List.append_nil] at hn
        exact ⟨F4, ys, s3.trans s4, ok4, by omega, hn⟩
  · have e : i = xs.length := by omega
    subst e
    rw [List.drop_length] at py
    obtain ⟨_, ⟨o, h2, acc, rfl, h4⟩, _⟩ := ok2.ce _ (List.mem_cons_self ..)
    have ok3 := ok2.frz (i := 0) (c := cL D s ys) rfl rfl h2
    have sD : Same F2 (upd F2 D (.lst acc)) := same_upd (ok2.ce _ (List.mem_cons_self ..)).1
    have yb : ys.length ≤ big := by omega
    refine .inl ⟨by rw [List.length_map] at j2; exact j2, q _ _ (hk ys py yb) _ _ H' ((s1.trans s2).trans sD) ok3 ⟨⟨D, acc, rfl, upd_same, Paired.imp2 (fun _ _ h => s.mono sD h) h4⟩, yb⟩⟩
/-- with a test, all plain -/
theorem we_lcPC {α β : Type} {r : Rep α} {s : Rep β} {wi : TI} {g : TG} {tt : TT} {te : TE} {vs : List Nat}
    (w : WiC fr Γ Θ wi fun its Θ1 => ∃ (xs : List α) (pr : α → Bool) (f : α → β) (Γ2 : α → Gam), its = xs.map (iz r) ∧ Θ1 = Θ ∧ xs.length ≤ big ∧ (∀ x, TgR g vs (iz r x) (wipeG Γ vs) (Γ2 x)) ∧
      (∀ x c, Et fr (Γ2 x) (c :: Θ) tt (pr x)) ∧ (∀ x c, Ev fr (Γ2 x) (c :: Θ) te (iz s (f x))) ∧ K (iz (yL s) ((xs.filter pr).map f)) Θ) : We fr Γ Θ (tLc wi g tt te vs) K :=
  we_lcWC (r := r) (s := s) fun σ F H ok env R q => w σ F H ok env R fun its Θ1 ⟨xs, pr, f, Γ2, e1, e2, hl, tg, ht, he, k⟩ => q its Θ1 ⟨xs, fun x k => ifD (pr x) (k (some (f x))) (k none), (· = (xs.filter pr).map f), Γ2, e1, e2, hl, tg, by rw [compD_pure]; rfl,
    fun x c kx h σ F H ok env Q q => ht x c σ F H ok env Q fun b Θ1 ⟨e1, e2⟩ => q b Θ1 (by
      subst e1 e2
      exact ⟨fun hb => (he x c).imp fun p Θ' ⟨e3, e4⟩ => ⟨e4, _, e3, h.1 hb⟩, fun hb => ⟨rfl, h.2 hb⟩⟩), fun ys e _ => by rw [e]; exact k⟩
/-- without a test -/
theorem we_lcMC {α β : Type} {r : Rep α} {s : Rep β} {wi : TI} {g : TG} {te : TE} {vs : List Nat}
    (w : WiC fr Γ Θ wi fun its Θ1 => ∃ (xs : List α) (f : α → (β → Prop) → Prop) (k : List β → Prop) (Γ2 : α → Gam), its = xs.map (iz r) ∧ Θ1 = Θ ∧ xs.length ≤ big ∧ (∀ x, TgR g vs (iz r x) (wipeG Γ vs) (Γ2 x)) ∧ mapD xs [] f k ∧
      (∀ x c kx, f x kx → We fr (Γ2 x) (c :: Θ) te fun q Θ' => Θ' = c :: Θ ∧ ∃ y, q = iz s y ∧ kx y) ∧
      (∀ ys, k ys → ys.length ≤ big → K (iz (yL s) ys) Θ)) : We fr Γ Θ (tLc wi g tYes te vs) K :=
  we_lcWC (r := r) (s := s) fun σ F H ok env R q => w σ F H ok env R fun its Θ1 ⟨xs, f, k, Γ2, e1, e2, hl, tg, hm, he, hk⟩ => q its Θ1 ⟨xs, fun x k => f x fun y => k (some y), k, Γ2, e1, e2, hl, tg, by rw [← mapD_comp]; exact hm,
    fun x c kx h => wt_yes ⟨fun _ => (he x c _ h), (fun h => nomatch h)⟩, hk⟩
theorem we_lcM0C {α β : Type} {r : Rep α} {s : Rep β} {wi : TI} {g : TG} {te : TE} {vs : List Nat}
    (w : WiC fr Γ Θ wi fun its Θ1 => ∃ (xs : List α) (f : α → β) (Γ2 : α → Gam), its = xs.map (iz r) ∧ Θ1 = Θ ∧ xs.length ≤ big ∧ (∀ x, TgR g vs (iz r x) (wipeG Γ vs) (Γ2 x)) ∧
      (∀ x c, Ev fr (Γ2 x) (c :: Θ) te (iz s (f x))) ∧ K (iz (yL s) (xs.map f)) Θ) : We fr Γ Θ (tLc wi g tYes te vs) K :=
  we_lcMC (r := r) (s := s) fun σ F H ok env R q => w σ F H ok env R fun its Θ1 ⟨xs, f, Γ2, e1, e2, hl, tg, he, k⟩ => q its Θ1 ⟨xs, fun x k => k (f x), (· = xs.map f), Γ2, e1, e2, hl, tg, by rw [mapD_pure]; rfl,
    fun x c kx h => (he x c).imp fun p Θ' ⟨e3, e4⟩ => ⟨e4, _, e3, h⟩, fun ys e _ => by rw [e]; exact k⟩
/-! try -/
def tryD (hd : HE → Prop) (f : (HE → Prop) → Prop) : Prop := f hd
theorem tryD.go {hd : HE → Prop} {f : (HE → Prop) → Prop} (h : tryD hd f) : f hd := h
theorem joinD.go {S : Type} {f : (S → Prop) → Prop} {k : S → Prop} (h : joinD f k) : f k := h
theorem sps_WT {α β : Type} {ef : HE → Er} {args : α → List Vp} {r : Rep β} {m : α → DM β} {E : L2.St → XK} {ps : List Vp} {Q : β → Prop} {X : HE → Prop} (x : α) (h : m x Q X) (xx : ∀ z, X z → Kr fr Γ Θ (fun cls d σ H => E σ cls d H) (ef z)) (k : ∀ y, Q y → K (iz r y) Θ) (e : ps = args x := by rfl) : Sps fr Γ Θ (spA (preW ef args r m)) E ps K := sps_W x h k xx e
theorem mkWT {α β : Type} {ef : HE → Er} {args : α → List Vp} {r : Rep β} {m : α → DM β} {E : L2.St → XK} {ps : List Vp} {Q : β → Prop} {X : HE → Prop} (x : α) (h : m x Q X) (xx : ∀ z, X z → Kr fr Γ Θ (fun cls d σ H => E σ cls d H) (ef z)) (k : ∀ y, Q y → K (iz r y) Θ) (e : ps = args x := by rfl) : MkPr fr Γ Θ (preW ef args r m) E ps K := mkW x h k xx e
theorem cb_isD {Kf : PySem.W.Frag} {C D a d : Addr} {fs : List (Str × Vp)} {b : Bool} (T : IsC Kf C) (hk : PySem.W.kitOne Kf (.ref C) (.ref D) = some b) (k : K (iz zB b) Θ) : Cbs fr Θ (rIsD Kf (.ref C) (some d) a) [zExc a d fs, zAt D] K := fun F H vs ok hps Q q => by
  cases hps with
  | cons h1 hp => cases hp with
    | cons h2 hp => cases hp with
      | nil =>
        obtain ⟨rfl, us, h3, h4⟩ := h1
        have h2 : _ = V.ref D := h2
        subst h2
        exact ⟨C, d, us, _, .ref D, b, rfl, T, rfl, ok.fh _ _ h3, rfl, fun u hu => by cases hu; rfl, hk, q.go k ok rfl⟩
theorem cb_isDT {Kf : PySem.W.Frag} {C a d : Addr} {n : String} {fs : List (Str × Vp)} {b : Bool} (T : IsC Kf C) (hk : PySem.W.kitOne Kf (.ref C) (.type n) = some b) (k : K (iz zB b) Θ) : Cbs fr Θ (rIsD Kf (.ref C) (some d) a) [zExc a d fs, zTy n] K := fun F H vs ok hps Q q => by
  cases hps with
  | cons h1 hp => cases hp with
    | cons h2 hp => cases hp with
      | nil =>
        obtain ⟨rfl, us, h3, h4⟩ := h1
        have h2 : _ = V.ty n := h2
        subst h2
        exact ⟨C, d, us, _, .type n, b, rfl, T, rfl, ok.fh _ _ h3, rfl, fun u hu => by cases hu; rfl, hk, q.go k ok rfl⟩
theorem we_cA {D : Addr} (k : K (zAt D) Θ) : We fr Γ Θ (tC (.ref D)) K := we_c (p := zAt D) (fun _ => rfl) k
/-- a if c else b, each of which needs more -/
theorem we_ifX {α : Type} {r : Rep α} {c : TT} {ta tb : TE} {f : (α → Prop) → Prop} {k : α → Prop} (h : joinD f k) (w : f k → Wt fr Γ Θ c fun b Θ1 => Θ1 = Θ ∧ (b = true → We fr Γ Θ ta fun p Θ2 => Θ2 = Θ ∧ ∃ x, p = iz r x ∧ k x) ∧ (b = false → We fr Γ Θ tb fun p Θ2 => Θ2 = Θ ∧ ∃ x, p = iz r x ∧ k x)) (kk : ∀ x, k x → K (iz r x) Θ) : We fr Γ Θ (tIf c ta tb) K := we_ifD (w h) kk
instance {α β : Type} [DecidableEq α] [DecidableEq β] {r : Rep α} {s : Rep β} [d : QDat r] [e : QDat s] [ap : QApart r s] : QDat (yU r s) := ⟨fun x => match x with | .inl a => d.enc a | .inr b => e.enc b, max d.dep e.dep, fun {Kf F v x} h => by
  cases x with
  | inl a => exact d.dp h
  | inr b => exact e.dp h, fun {F v x} h => by
  cases x with
  | inl a => exact d.cl h
  | inr b => exact e.cl h, fun x => by
  cases x with
  | inl a => exact Nat.le_trans (d.dl a) (Nat.le_max_left _ _)
  | inr b => exact Nat.le_trans (e.dl b) (Nat.le_max_right _ _), fun x y => by
  cases x with
  | inl a => cases y with
    | inl b => exact (d.eq a b).trans (by simp)
    | inr b => exact (ap.ne a b).trans (by simp)
  | inr a => cases y with
    | inl b => exact (ap.ne' b a).trans (by simp)
    | inr b => exact (e.eq a b).trans (by simp)⟩
instance {α β γ : Type} [DecidableEq α] [DecidableEq β] [DecidableEq γ] {r : Rep α} {s : Rep β} {t : Rep γ} [d : QDat r] [e : QDat s] [f : QDat t] [a1 : QApart s t] [a2 : QApart r s] [a3 : QApart r t] : QApart r (yU s t) := ⟨fun x y => by
  cases y with
  | inl a => exact a2.ne x a
  | inr a => exact a3.ne x a, fun x y => by
  cases y with
  | inl a => exact a2.ne' x a
  | inr a => exact a3.ne' x a⟩
theorem Kr.le {W : WX} {e : Er} (h : Kr fr Γ' Θ W e) (g : GLe Γ Γ') : Kr fr Γ Θ W e := fun σ F H ok env d us hd hf => h σ F H ok (env.le g) d us hd hf
end
end L2

set_option Elab.async false
set_option linter.all false
set_option maxRecDepth 100000
set_option maxHeartbeats 4000000
/-! dicts of words compared; isinstance of one's own class; lists made by comprehensions, changed later; pop(i); stars in displays. -/
namespace L2
open PySem PySem.Spec PyProof.Rows PySem.HErr
/-! a way that is not gone -/
theorem pss_false {X : Cx} {ss : List Stmt} : PSs X ss (fun D σ H => False) := ⟨fun pins s σ H D I h => h.elim⟩
/-! == of dicts -/
theorem un200 {k : Nat} {A : Around} (r : Room k A) : A.units + 200 < cLine := by
  have := r.un
  omega
theorem glo_plan {K : PySem.W.Frag} {mg : Str → Option Value} {C : Addr} (T : PlanC K mg C) : Glo mg "Plan" (.ref C) := ⟨_, T.gC, rfl⟩
inductive DHits (K : PySem.W.Frag) (H : Hp) (ls : List (Key × V)) : List (Key × V) → Bool → Prop
  | nil : DHits K H ls [] true
  | miss {k : Key} {v : V} {r : List (Key × V)} : valV ls k = none → DHits K H ls ((k, v) :: r) false
  | hit {k : Key} {v y : V} {d e : PyData} {r : List (Key × V)} {b : Bool} : valV ls k = some y → Dp K H v d → Dp K H y e → SeqAt.shaped d = true → SeqAt.shaped e = true → DHits K H ls r b → DHits K H ls ((k, v) :: r) (PyData.eqv d e && b)
def rEqDD (K : PySem.W.Frag) : R2 := fun x y H Q => ∃ a b ks ls r, x = .ref a ∧ y = .ref b ∧ H a = some (.dK ks) ∧ H b = some (.dK ls) ∧ DHits K H ls ks r ∧ Q (.bl (ks.length == ls.length && r)) H
theorem dhits_keq {X : Cx} {pins : List (Addr × Obj)} {σ : L2.St} {H : Hp} {s : Shared} (I : Inv X pins σ H s) {A : Around} (hu : A.units + 64 < cLine) {ls : List (Key × V)} {vb : List (Key × Value)} (rb : KV ls vb) {ks : List (Key × V)} {r : Bool} (h : DHits X.K H ls ks r) :
    ∀ {va : List (Key × Value)}, KV ks va → PySem.W.KeqHits A s vb va r := by
  induction h with
  | nil =>
    intro va ra
    cases ra
    exact .nil
  | @miss k v r e =>
    intro va ra
    cases ra with
    | @cons _ q _ qs h t =>
      obtain ⟨k', v'⟩ := q
      obtain ⟨h1, h2⟩ := h
      have h1 : k = k' := h1
      subst h1
      have rr : RelO (valV ls k) (valueAt vb k) := rb.val k
      rw [e] at rr
      refine .miss ?_
      cases hq : valueAt vb k with
      | none => rfl
      | some z => rw [hq] at rr; cases rr
  | @hit k v y d e r b ev dv dy sd se _ ih =>
    intro va ra
    cases ra with
    | @cons _ q _ qs h t =>
      obtain ⟨k', v'⟩ := q
      obtain ⟨h1, h2⟩ := h
      have h1 : k = k' := h1
      subst h1
      have rr : RelO (some y) (valueAt vb k) := by rw [← ev]; exact rb.val k
      obtain ⟨y', hy, ry⟩ := rr.some_of
      obtain ⟨as, r1⟩ := Dp.reads I d v v' dv h2
      obtain ⟨bs, r2⟩ := Dp.reads I e y y' dy ry
      exact .hit hy (SeqAt.eqAt_reads d e A s v' y' as bs r1 r2 (SeqAt.canLay_of_shaped sd) (SeqAt.canLay_of_shaped se) (SeqAt.room_of_shaped sd hu)) (ih t)
theorem op_eqDD {X : Cx} {K : PySem.W.Frag} (hu : X.A.units + 200 < cLine) (hK : X.K = K := by rfl) : OpR X (compareOp .Eq) (rEqDD K) := by
  subst hK
  intro pins s σ H x y v u Q I rx ry h
  obtain ⟨a, b, ks, ls, r, rfl, rfl, ea, eb, hh, q⟩ := h
  obtain rfl : v = Value.ref a := rx
  obtain rfl : u = Value.ref b := ry
  obtain ⟨_, ya, va, ra, da⟩ := (show ObjOk X.prog X.w H s.heap a (.dK ks) from I.hok a _ ea)
  obtain ⟨_, yb, vb, rb, db⟩ := (show ObjOk X.prog X.w H s.heap b (.dK ls) from I.hok b _ eb)
  have l1 : ks.length = va.length := ra.length
  have l2 : ls.length = vb.length := rb.length
  refine PySem.W.keq_eq (knd := mixKind X.prog X.w) (r := r) ya yb da db (by omega) (fun _ => dhits_keq I (by show X.A.units + 1 + 64 < cLine; omega) rb hh ra) ?_
  rw [← l1, ← l2]
  exact ⟨.bl _, H, I, rfl, q⟩
section
variable {fr fr' : Fr} {Γ Γ' : Gam} {Θ Θ' : List Cel} {F F' H H' : Hp} {K : Vp → List Cel → Prop} {Qv : VK}
def dEq {α : Type} [DecidableEq α] (xs ys : List (Str × α)) : Bool := decide (xs.length = ys.length) && xs.all fun p => decide (getR ys p.1 = some p.2)
theorem kvs_val {α : Type} {r : Rep α} {kvs : List (Key × V)} {rows : List (Str × α)} (h : KVs r F kvs rows) (n : Str) : (getR rows n = none → valV kvs (Sum.inr n) = none) ∧ ∀ x, getR rows n = some x → ∃ v, valV kvs (Sum.inr n) = some v ∧ r.p F v x := by
  induction h with
  | nil => exact ⟨fun _ => rfl, (fun x e => nomatch e)⟩
  | @cons kv x ks xs h t ih =>
    obtain ⟨h1, h2⟩ := h
    by_cases e : x.1 = n
    · have e1 : kv.1 = Sum.inr n := by rw [h1, e]
      have e2 : getR (x :: xs) n = some x.2 := by unfold getR; rw [List.find?_cons, decide_eq_true e]; rfl
      rw [e2, valV_pos e1]
      exact ⟨(fun q => nomatch q), fun y hy => ⟨_, rfl, by cases hy; exact h2⟩⟩
    · have e1 : ¬ kv.1 = Sum.inr n := fun q => by rw [h1] at q; exact e (Sum.inr.inj q)
      have e2 : getR (x :: xs) n = getR xs n := by unfold getR; rw [List.find?_cons, decide_eq_false e]
      rw [e2, valV_neg e1]
      exact ih
theorem kvs_hits {Kf : PySem.W.Frag} {α : Type} [DecidableEq α] {r : Rep α} [d : QDat r] (hd : d.dep ≤ 64) {ls : List (Key × V)} {ys : List (Str × α)} (fh : Same F H) (hl : KVs r F ls ys) {ks : List (Key × V)} {xs : List (Str × α)} (hk : KVs r F ks xs) : DHits Kf H ls ks (xs.all fun p => decide (getR ys p.1 = some p.2)) := by
  induction hk with
  | nil => exact .nil
  | @cons kv x ks xs h t ih =>
    obtain ⟨k, v⟩ := kv
    obtain ⟨h1, h2⟩ := h
    have h1 : k = Sum.inr x.1 := h1
    subst h1
    obtain ⟨g1, g2⟩ := kvs_val hl x.1
    rw [List.all_cons]
    cases e : getR ys x.1 with
    | none =>
      rw [decide_eq_false (by simp), Bool.false_and]
      exact .miss (g1 e)
    | some y =>
      obtain ⟨u, hu, hr⟩ := g2 y e
      have eb : decide (some y = some x.2) = PyData.eqv (d.enc x.2) (d.enc y) := by
        rw [d.eq]
        by_cases q : x.2 = y
        · rw [q]; simp
        · rw [decide_eq_false q, decide_eq_false (fun z => q (Option.some.inj z).symm)]
      rw [eb]
      exact .hit hu ((d.dp h2).up fh) ((d.dp hr).up fh) (q_shape hd h2) (q_shape hd hr) ih
theorem oy_eqDD {Kf : PySem.W.Frag} {α : Type} [DecidableEq α] {r : Rep α} [d : QDat r] {xs ys : List (Str × α)} (hd : d.dep ≤ 64) (k : K (iz zB (dEq xs ys)) Θ) : Ops fr Θ (rEqDD Kf) (iz (yD r) xs) (iz (yD r) ys) K := fun F H v w ok ⟨⟨a, ks, h1, h2, h3⟩, h4⟩ ⟨⟨b, ls, g1, g2, g3⟩, g4⟩ Q q => by
  refine ⟨a, b, ks, ls, _, h1, g1, ok.fh _ _ h2, ok.fh _ _ g2, kvs_hits hd ok.fh g3 h3, ?_⟩
  have e : (ks.length == ls.length && xs.all fun p => decide (getR ys p.1 = some p.2)) = dEq xs ys := by
    unfold dEq
    rw [Paired.len h3, Paired.len g3]
    congr 1
  rw [e]
  exact q.go k ok rfl
/-! isinstance of one's own class -/
structure IsO (K : PySem.W.Frag) (C : Addr) : Prop where
  cl : Cls K C
  ha : PySem.W.findIn K (.ref C) "__class__" = some (some (.builtin "object.__class__"))
  hn : PySem.W.specialIn K (.builtin "object.__class__") "__get__" = some (some (.builtin "getset_descriptor.__get__"))
  htk : PySem.W.takesIn K (.builtin "object.__class__") = some true
  hm : PySem.W.mroIn K C (.type "object") = some true
theorem cb_isO {Kf : PySem.W.Frag} {C D : Addr} {p : Vp} {b : Bool} (T : IsO Kf C) (ic : InsC fr Θ p C) (hk : PySem.W.kitOne Kf (.ref C) (.ref D) = some b) (k : K (iz zB b) Θ) : Cbs fr Θ (rIsi Kf) [p, zAt D] K := fun F H vs ok hps Q q => by
  cases hps with
  | cons h1 hp => cases hp with
    | cons h2 hp => cases hp with
      | nil =>
        have h2 : _ = V.ref D := h2
        subst h2
        obtain ⟨a, dx, fs, rfl, h3⟩ := ic F H _ ok h1
        exact ⟨.ref a, .ref D, .ref C, .ref D, b, rfl, .own D, .base (.ins h3 T.cl T.ha T.hn T.htk T.hm), hk, q.go k ok rfl⟩
/-! a comprehension's list, one's own -/
theorem we_lcWN {α β : Type} {r : Rep α} {s : Rep β} {wi : TI} {g : TG} {tt : TT} {te : TE} {vs : List Nat}
    (w : Wi fr Γ Θ wi fun its Θ1 => ∃ (xs : List α) (f : α → (Option β → Prop) → Prop) (k : List β → Prop) (Γ2 : α → Gam), its = xs.map (iz r) ∧ Θ1 = Θ ∧ xs.length ≤ big ∧ (∀ x, TgR g vs (iz r x) (wipeG Γ vs) (Γ2 x)) ∧ compD xs [] f k ∧
      (∀ x c kx, f x kx → Wt fr (Γ2 x) (c :: Θ) tt fun b Θ1 => (b = true → We fr (Γ2 x) Θ1 te fun q Θ' => Θ' = c :: Θ ∧ ∃ y, q = iz s y ∧ kx (some y)) ∧ (b = false → Θ1 = c :: Θ ∧ kx none)) ∧
      (∀ ys, k ys → ys.length ≤ big → ∀ a, K (zAt a) (cY a s ys :: Θ))) : We fr Γ Θ (tLc wi g tt te vs) K := fun σ F H ok env Q q => by
  refine w σ F H ok env _ fun its Θ1 ⟨xs, f, k, Γ2, e1, e2, hl, tg, hc, hs, hk⟩ J F1 H1 s1 ok1 jok => ?_
  subst e1 e2
  intro D nD
  refine ⟨fun i m H' => m = xs.length - i ∧ i ≤ xs.length ∧ ∃ F2 ys, Same F1 F2 ∧ OkF fr (cL D s ys :: Θ1) F2 H' ∧ ys.length ≤ i ∧ compD (xs.drop i) ys f k, ⟨xs.length, by simp, Nat.zero_le _, F1, [], Same.refl _, ok1.mkOwn (c := cL D s []) nD rfl ⟨[], rfl, .nil⟩, Nat.le_refl _, hc⟩, ?_⟩
  rintro i m H' ⟨rfl, hi, F2, ys, s2, ok2, yl, py⟩
  obtain ⟨j1, j2⟩ := jok F2 H' s2 ok2.fh
  by_cases hlt : i < xs.length
  · have hx : xs[i]? = some xs[i] := List.getElem?_eq_getElem hlt
    generalize xs[i] = x at hx
    obtain ⟨jg, jy⟩ := j1 i (iz r x) (by rw [List.getElem?_map, hx]; rfl)
    refine .inr ⟨jg, fun H3 => ∃ F3 ys, Same F1 F3 ∧ OkF fr (cL D s ys :: Θ1) F3 H3 ∧ ys.length ≤ i + 1 ∧ compD (xs.drop (i + 1)) ys f k, fun H3 p => ⟨xs.length - (i + 1), by omega, rfl, hlt, p⟩, fun v H3 y => ?_⟩
    obtain ⟨F3, e1, e2, e3, e4, e5⟩ := jy v H3 y
    have ok3 := ok2.grow e2 e1 e3 e4
    have s3 := s2.trans e1
    have hd : xs.drop i = x :: xs.drop (i + 1) := by
      obtain ⟨hl, e⟩ := List.getElem?_eq_some_iff.mp hx
      rw [List.drop_eq_getElem_cons hl, e]
    rw [hd] at py
    refine tg x (L2.wipe σ vs) F3 H3 v ok3.fh ((env.mono (s1.trans s3)).wipe vs) e5 _ fun σ2 env2 hw => ⟨?_, ?_⟩
    · rw [hw, wipe_idem]
    · refine hs x _ _ py σ2 F3 H3 ok3 env2 _ fun b Θ2 ⟨k1, k2⟩ F4 H4 s4 ok4 => ?_
      cases b with
      | true =>
        rw [if_pos rfl]
        refine k1 rfl σ2 F4 H4 ok4 (env2.mono s4) _ fun p Θ3 ⟨e8, y, e9, hy⟩ u F5 H5 s5 ok5 hp => ?_
        subst e8 e9
        obtain ⟨_, ⟨o, h2, acc, rfl, h4⟩, _⟩ := ok5.ce _ (List.mem_cons_self ..)
        have ok6 := ok5.mut (i := 0) (c := cL D s ys) (c' := cL D s (ys ++ [y])) (o := .lst (acc ++ [u])) rfl rfl rfl ⟨_, rfl, PySem.Paired.snoc h4 hp⟩
        refine ⟨acc, h2, ?_, F5, ys ++ [y], (s3.trans s4).trans s5, ok6, by rw [List.length_append]; show _ + 1 ≤ _; omega, hy⟩
        rw [Paired.len h4]
        exact big_lt (by omega)
      | false =>
        rw [if_neg Bool.false_ne_true]
        obtain ⟨e8, hn⟩ := k2 rfl
        subst e8
        have hn : compD (xs.drop (i + 1)) (ys ++ []) f k := hn
        rw [List.append_nil] at hn
        exact ⟨F4, ys, s3.trans s4, ok4, by omega, hn⟩
  · have e : i = xs.length := by omega
    subst e
    rw [List.drop_length] at py
    obtain ⟨_, ⟨o, h2, acc, rfl, h4⟩, _⟩ := ok2.ce _ (List.mem_cons_self ..)
    have yb : ys.length ≤ big := by omega
    have ok3 := ok2.recell (j := 0) (c := cL D s ys) (c' := cY D s ys) rfl rfl rfl fun o ho => ⟨ho, yb⟩
    refine .inl ⟨by rw [List.length_map] at j2; exact j2, q _ _ (hk ys py yb D) _ F2 H' (s1.trans s2) ok3 rfl⟩
/-- without a test -/
theorem we_lcMN {α β : Type} {r : Rep α} {s : Rep β} {wi : TI} {g : TG} {te : TE} {vs : List Nat}
    (w : Wi fr Γ Θ wi fun its Θ1 => ∃ (xs : List α) (f : α → (β → Prop) → Prop) (k : List β → Prop) (Γ2 : α → Gam), its = xs.map (iz r) ∧ Θ1 = Θ ∧ xs.length ≤ big ∧ (∀ x, TgR g vs (iz r x) (wipeG Γ vs) (Γ2 x)) ∧ mapD xs [] f k ∧
      (∀ x c kx, f x kx → We fr (Γ2 x) (c :: Θ) te fun q Θ' => Θ' = c :: Θ ∧ ∃ y, q = iz s y ∧ kx y) ∧
      (∀ ys, k ys → ys.length ≤ big → ∀ a, K (zAt a) (cY a s ys :: Θ))) : We fr Γ Θ (tLc wi g tYes te vs) K :=
  we_lcWN (r := r) (s := s) fun σ F H ok env R q => w σ F H ok env R fun its Θ1 ⟨xs, f, k, Γ2, e1, e2, hl, tg, hm, he, hk⟩ => q its Θ1 ⟨xs, fun x k => f x fun y => k (some y), k, Γ2, e1, e2, hl, tg, by rw [← mapD_comp]; exact hm,
    fun x c kx h => wt_yes ⟨fun _ => (he x c _ h), (fun h => nomatch h)⟩, hk⟩
/-! stars in displays -/
theorem pvs_star {α : Type} {r : Rep α} {vs : List V} {xs : List α} (s2 : Same F F') (h : PVs r F vs xs) : Paired (fun (p : Vp) v => p.p F' v) (xs.map (iz r)) vs := by
  induction h with
  | nil => exact .nil
  | cons a _ ih => exact .cons (r.mono s2 a) ih
theorem wa_star {Kf : PySem.W.Frag} {te : TE} {t : TA} {K : List Vp → List Cel → Prop} (w : We fr Γ Θ te fun p Θ1 => ∃ (α : Type) (r : Rep α) (xs : List α), p = iz (yL r) xs ∧ Wa fr Γ Θ1 t fun ps Θ2 => K (xs.map (iz r) ++ ps) Θ2) : Wa fr Γ Θ (StX.tStar Kf te t) K := fun σ F H ok env Q q =>
  w σ F H ok env _ fun p Θ1 ⟨α, r, xs, e, k⟩ v F1 H1 s1 ok1 hp => by
    subst e
    obtain ⟨⟨a, vs, rfl, h2, h3⟩, h4⟩ := hp
    refine ⟨a, vs, rfl, .inr (SqL.of (ok1.fh _ _ h2)), k σ F1 H1 ok1 (env.mono s1) _ fun ps Θ2 kk us F2 H2 s2 ok2 hps => q _ Θ2 kk _ F2 H2 (s1.trans s2) ok2 ?_⟩
    exact Paired.app (pvs_star s2 h3) hps
/-! pop(i) -/
theorem we_popY {Kf : PySem.W.Frag} {α : Type} {r : Rep α} {xs : List α} {a : Addr} {i j : Nat} {te : TE} (hi : Γ[i]? = some (some (zAt a))) (hj : Θ[j]? = some (cY a r xs))
    (w : We fr Γ Θ te fun p Θ1 => ∃ n m x, p = iz zI n ∧ Θ1[j]? = some (cY a r xs) ∧ ixN xs.length n = some m ∧ xs[m]? = some x ∧ K (iz r x) (Θ1.set j (cY a r (xs.eraseIdx m)))) : We fr Γ Θ (tBM Kf "list" rPopAt (tVar i) (tCons te tNil)) K := by
  refine we_bm (we_var hi ⟨fun F H v ok hv => ?_, wa_cons (w.imp fun p Θ1 ⟨n, m, x, e, hj1, hm, hx, k⟩ => wa_nil ?_)⟩)
  · obtain ⟨_, ⟨o, h2, ⟨⟨vs, rfl, h4⟩, h5⟩⟩, _⟩ := ok.ce _ (List.mem_of_getElem? hj)
    have hv : v = .ref a := hv
    subst hv
    exact .inl ⟨rfl, vs, SqL.of h2⟩
  · subst e
    intro F H v vs ok hv hps Q q
    cases hps with
    | cons h1 hp => cases hp with
      | nil =>
        have h1 : _ = V.int n := h1
        subst h1
        obtain ⟨_, ⟨o, h2, ⟨⟨us, rfl, h4⟩, h5⟩⟩, _⟩ := ok.ce _ (List.mem_of_getElem? hj1)
        obtain ⟨u, hu, hr⟩ := Paired.get' h4 hx
        have hl := Paired.len h4
        have hb : big = 100000 := rfl
        have hm' : seqIndex? n us.length = some m ∧ -(2 ^ 63) ≤ n ∧ n < 2 ^ 63 := by
          rw [hl]
          unfold ixN at hm
          by_cases q0 : 0 ≤ n
          · rw [if_pos q0] at hm
            by_cases q1 : n < xs.length
            · first
                | (rw [if_pos q1] at hm; cases hm; exact ⟨seqIndex_of q0 q1, by omega, by omega⟩)
                | (rw [if_pos (by omega)] at hm; cases hm; exact ⟨seqIndex_of q0 q1, by omega, by omega⟩)
            · first
                | (rw [if_neg q1] at hm; cases hm)
                | (rw [if_neg (by omega)] at hm; cases hm)
          · rw [if_neg q0] at hm
            by_cases q1 : 0 ≤ n + xs.length
            · first
                | (rw [if_pos q1] at hm; cases hm; exact ⟨PySem.MeetsSeq.seqIndex_neg (by omega) (by omega), by omega, by omega⟩)
                | (rw [if_pos (by omega)] at hm; cases hm; exact ⟨PySem.MeetsSeq.seqIndex_neg (by omega) (by omega), by omega, by omega⟩)
            · first
                | (rw [if_neg q1] at hm; cases hm)
                | (rw [if_neg (by omega)] at hm; cases hm)
        have er : PVs r F (us.eraseIdx m) (xs.eraseIdx m) := by
          have : ∀ {us : List V} {xs : List α}, PVs r F us xs → ∀ m, PVs r F (us.eraseIdx m) (xs.eraseIdx m) := fun {us xs} h => by
            induction h with
            | nil => intro m; exact .nil
            | cons a b ih =>
              intro m
              cases m with
              | zero => exact b
              | succ m => exact .cons a (ih m)
          exact this h4 m
        have ok2 := ok.mut (c' := cY a r (xs.eraseIdx m)) (o := .lst (us.eraseIdx m)) hj1 rfl rfl ⟨⟨_, rfl, er⟩, Nat.le_trans (List.length_eraseIdx_le _ _) h5⟩
        exact ⟨a, us, n, m, u, hv, rfl, h2, hm'.2.1, hm'.2.2, hm'.1, hu, q _ _ k _ F _ (Same.refl F) ok2 hr⟩
end
end L2

set_option Elab.async false
set_option linter.all false
set_option maxRecDepth 100000
set_option maxHeartbeats 4000000

namespace Held
open PySem PySem.Spec PyProof.Rows L2 PySem.HErr

local macro_rules | `(tactic| ac_rfl) => `(tactic| (repeat (first | with_reducible refine kn_seq ?_ | with_reducible refine kn_asg ?_ | with_reducible refine kn_ret ?_ | with_reducible refine kn_next ?_ | with_reducible refine we_op ?_ | with_reducible refine we_un ?_ | with_reducible refine wa_nil ?_ | with_reducible refine wa_cons ?_ | with_reducible refine we_cb ?_ | with_reducible refine we_callE ?_ | with_reducible refine we_callS ?_ | with_reducible refine we_cI ?_ | with_reducible refine we_cB ?_ | with_reducible refine we_cN ?_ | (with_reducible refine is_cS ?_; refine we_cS (asc_of (by decide)) ?_) | (with_reducible refine is_var ?_; refine we_var rfl ?_) | with_reducible refine wt_test ?_ | with_reducible refine wt_b ?_ | with_reducible refine wt_not ?_ | with_reducible refine we_not ?_ | with_reducible refine we_sl ?_ | with_reducible refine wo_none ?_ | with_reducible refine wo_some ?_ | with_reducible refine wt_yes ?_ | with_reducible refine ops_I0 ?_ | with_reducible refine ops_B0 ?_ | with_reducible refine uns_I ?_ | with_reducible refine ops_eqI ?_ | with_reducible refine ops_neI ?_ | with_reducible refine ops_eqS ?_ | with_reducible refine ops_neS ?_ | with_reducible refine ops_eqB ?_ | with_reducible refine ops_neB ?_ | with_reducible refine ops_inS seq_L ?_ | with_reducible refine ops_inS seq_T ?_ | with_reducible refine ops_ninS seq_L ?_ | with_reducible refine ops_ninS seq_T ?_ | with_reducible refine ops_inI seq_L ?_ | with_reducible refine ops_inI seq_T ?_ | with_reducible refine ops_ix20 ?_ | with_reducible refine ops_ix21 ?_ | with_reducible refine ops_ix30 ?_ | with_reducible refine ops_ix31 ?_ | with_reducible refine ops_ix32 ?_ | with_reducible refine cb_len seq_L ?_ | with_reducible refine cb_len seq_T ?_ | with_reducible refine cb_list seq_L ?_ | with_reducible refine cb_list seq_T ?_ | with_reducible refine cb_tupleL ?_ | with_reducible refine cb_tupleT ?_ | with_reducible refine cb_any ?_ | with_reducible refine cb_all ?_ | with_reducible refine cb_sum ?_ | with_reducible refine cb_int ?_ | with_reducible refine cb_abs ?_ | with_reducible refine we_fld ?_ | with_reducible refine we_dget ?_ | with_reducible refine we_din ?_ | with_reducible refine we_dnin ?_ | with_reducible refine we_met ?_ | with_reducible refine wi_list ?_ | with_reducible refine wi_tup ?_ | with_reducible refine wi_range ?_ | with_reducible refine wi_range2 ?_ | with_reducible refine kn_if ?_ | with_reducible refine kn_raise ?_ | with_reducible refine ⟨_, fldP_taken (by assumption), ?_⟩ | with_reducible refine ⟨_, fldP_given (by assumption), ?_⟩ | with_reducible refine ⟨_, fldP_places (by assumption), ?_⟩ | with_reducible refine ⟨_, fldP_begin (by assumption), ?_⟩ | with_reducible refine ⟨_, fldP_steps (by assumption), ?_⟩ | with_reducible refine ⟨_, _, _, _, dic_D, rfl, ?_⟩ | refine ⟨ins_plan rfl, ?_⟩ | with_reducible refine we_mk ?_ | with_reducible refine we_cT ?_ | with_reducible refine we_cR ?_ | with_reducible refine ops_isO ?_ | with_reducible refine ops_notO ?_ | with_reducible refine ops_isX ?_ | with_reducible refine ops_notX ?_ | with_reducible refine ops_isN ?_ | with_reducible refine ops_notN ?_ | with_reducible refine ops_eqD (by decide) ?_ | with_reducible refine ops_neD (by decide) ?_ | with_reducible apply wt_and | with_reducible apply wt_or | with_reducible refine im_t (fun _ => ?_) | with_reducible refine im_f (fun _ => ?_) | with_reducible refine im_tv (fun _ => ?_) | with_reducible refine im_fv (fun _ => ?_) | with_reducible refine cb_isi ty_L kit_ll ?_ | with_reducible refine cb_isi ty_T kit_tt ?_ | with_reducible refine cb_isi ty_2 kit_tt ?_ | with_reducible refine cb_isi ty_I kit_ii ?_ | with_reducible refine cb_isi ty_I kit_ib ?_ | with_reducible refine cb_isi ty_B kit_bb ?_ | with_reducible refine cb_isi ty_S kit_ss ?_ | exact ⟨rfl, rfl⟩ | with_reducible refine ⟨_, rfl, ?_⟩ | refine ⟨_, _, _, rfl, ?_⟩)))
local macro_rules | `(tactic| bv_omega) => `(tactic| (first | with_reducible refine kn_seq ?_ | with_reducible refine kn_asg ?_ | with_reducible refine kn_ret ?_ | with_reducible refine kn_next ?_ | with_reducible refine we_op ?_ | with_reducible refine we_un ?_ | with_reducible refine wa_nil ?_ | with_reducible refine wa_cons ?_ | with_reducible refine we_cb ?_ | with_reducible refine we_callE ?_ | with_reducible refine we_callS ?_ | with_reducible refine we_cI ?_ | with_reducible refine we_cB ?_ | with_reducible refine we_cN ?_ | (with_reducible refine is_cS ?_; refine we_cS (asc_of (by decide)) ?_) | (with_reducible refine is_var ?_; refine we_var rfl ?_) | with_reducible refine wt_test ?_ | with_reducible refine wt_b ?_ | with_reducible refine wt_not ?_ | with_reducible refine we_not ?_ | with_reducible refine we_sl ?_ | with_reducible refine wo_none ?_ | with_reducible refine wo_some ?_ | with_reducible refine wt_yes ?_ | with_reducible refine ops_I0 ?_ | with_reducible refine ops_B0 ?_ | with_reducible refine uns_I ?_ | with_reducible refine ops_eqI ?_ | with_reducible refine ops_neI ?_ | with_reducible refine ops_eqS ?_ | with_reducible refine ops_neS ?_ | with_reducible refine ops_eqB ?_ | with_reducible refine ops_neB ?_ | with_reducible refine ops_inS seq_L ?_ | with_reducible refine ops_inS seq_T ?_ | with_reducible refine ops_ninS seq_L ?_ | with_reducible refine ops_ninS seq_T ?_ | with_reducible refine ops_inI seq_L ?_ | with_reducible refine ops_inI seq_T ?_ | with_reducible refine ops_ix20 ?_ | with_reducible refine ops_ix21 ?_ | with_reducible refine ops_ix30 ?_ | with_reducible refine ops_ix31 ?_ | with_reducible refine ops_ix32 ?_ | with_reducible refine cb_len seq_L ?_ | with_reducible refine cb_len seq_T ?_ | with_reducible refine cb_list seq_L ?_ | with_reducible refine cb_list seq_T ?_ | with_reducible refine cb_tupleL ?_ | with_reducible refine cb_tupleT ?_ | with_reducible refine cb_any ?_ | with_reducible refine cb_all ?_ | with_reducible refine cb_sum ?_ | with_reducible refine cb_int ?_ | with_reducible refine cb_abs ?_ | with_reducible refine we_fld ?_ | with_reducible refine we_dget ?_ | with_reducible refine we_din ?_ | with_reducible refine we_dnin ?_ | with_reducible refine we_met ?_ | with_reducible refine wi_list ?_ | with_reducible refine wi_tup ?_ | with_reducible refine wi_range ?_ | with_reducible refine wi_range2 ?_ | with_reducible refine kn_if ?_ | with_reducible refine kn_raise ?_ | with_reducible refine ⟨_, fldP_taken (by assumption), ?_⟩ | with_reducible refine ⟨_, fldP_given (by assumption), ?_⟩ | with_reducible refine ⟨_, fldP_places (by assumption), ?_⟩ | with_reducible refine ⟨_, fldP_begin (by assumption), ?_⟩ | with_reducible refine ⟨_, fldP_steps (by assumption), ?_⟩ | with_reducible refine ⟨_, _, _, _, dic_D, rfl, ?_⟩ | refine ⟨ins_plan rfl, ?_⟩ | with_reducible refine we_mk ?_ | with_reducible refine we_cT ?_ | with_reducible refine we_cR ?_ | with_reducible refine ops_isO ?_ | with_reducible refine ops_notO ?_ | with_reducible refine ops_isX ?_ | with_reducible refine ops_notX ?_ | with_reducible refine ops_isN ?_ | with_reducible refine ops_notN ?_ | with_reducible refine ops_eqD (by decide) ?_ | with_reducible refine ops_neD (by decide) ?_ | with_reducible apply wt_and | with_reducible apply wt_or | with_reducible refine im_t (fun _ => ?_) | with_reducible refine im_f (fun _ => ?_) | with_reducible refine im_tv (fun _ => ?_) | with_reducible refine im_fv (fun _ => ?_) | with_reducible refine cb_isi ty_L kit_ll ?_ | with_reducible refine cb_isi ty_T kit_tt ?_ | with_reducible refine cb_isi ty_2 kit_tt ?_ | with_reducible refine cb_isi ty_I kit_ii ?_ | with_reducible refine cb_isi ty_I kit_ib ?_ | with_reducible refine cb_isi ty_B kit_bb ?_ | with_reducible refine cb_isi ty_S kit_ss ?_ | exact ⟨rfl, rfl⟩ | with_reducible refine ⟨_, rfl, ?_⟩ | refine ⟨_, _, _, rfl, ?_⟩))
local macro_rules | `(tactic| nofun) => `(tactic| (repeat (first | with_reducible refine kn_seq ?_ | with_reducible refine kn_asg ?_ | with_reducible refine kn_ret ?_ | with_reducible refine kn_next ?_ | with_reducible refine we_op ?_ | with_reducible refine we_un ?_ | with_reducible refine wa_nil ?_ | with_reducible refine wa_cons ?_ | with_reducible refine we_cb ?_ | with_reducible refine we_callE ?_ | with_reducible refine we_callS ?_ | with_reducible refine we_cI ?_ | with_reducible refine we_cB ?_ | with_reducible refine we_cN ?_ | (with_reducible refine is_cS ?_; refine we_cS (asc_of (by decide)) ?_) | (with_reducible refine is_var ?_; first | refine we_varB rfl ?_ | refine we_varP (by assumption) rfl ?_ | refine we_var rfl ?_) | with_reducible refine wt_test ?_ | with_reducible refine wt_b ?_ | with_reducible refine wt_not ?_ | with_reducible refine we_not ?_ | with_reducible refine we_sl ?_ | with_reducible refine wo_none ?_ | with_reducible refine wo_some ?_ | with_reducible refine wt_yes ?_ | with_reducible refine ops_I0 ?_ | with_reducible refine ops_B0 ?_ | with_reducible refine uns_I ?_ | with_reducible refine ops_eqI ?_ | with_reducible refine ops_neI ?_ | with_reducible refine ops_eqS ?_ | with_reducible refine ops_neS ?_ | with_reducible refine ops_eqB ?_ | with_reducible refine ops_neB ?_ | with_reducible refine ops_inS seq_L ?_ | with_reducible refine ops_inS seq_T ?_ | with_reducible refine ops_ninS seq_L ?_ | with_reducible refine ops_ninS seq_T ?_ | with_reducible refine ops_inI seq_L ?_ | with_reducible refine ops_inI seq_T ?_ | with_reducible refine ops_ix20 ?_ | with_reducible refine ops_ix21 ?_ | with_reducible refine ops_ix30 ?_ | with_reducible refine ops_ix31 ?_ | with_reducible refine ops_ix32 ?_ | with_reducible refine cb_len seq_L ?_ | with_reducible refine cb_len seq_T ?_ | with_reducible refine cb_list seq_L ?_ | with_reducible refine cb_list seq_T ?_ | with_reducible refine cb_tupleL ?_ | with_reducible refine cb_tupleT ?_ | with_reducible refine cb_any ?_ | with_reducible refine cb_all ?_ | with_reducible refine cb_sum ?_ | with_reducible refine cb_int ?_ | with_reducible refine cb_abs ?_ | with_reducible refine we_fld ?_ | with_reducible refine we_dget ?_ | with_reducible refine we_din ?_ | with_reducible refine we_dnin ?_ | with_reducible refine we_met ?_ | with_reducible refine wi_list ?_ | with_reducible refine wi_tup ?_ | with_reducible refine wi_range ?_ | with_reducible refine wi_range2 ?_ | with_reducible refine kn_if ?_ | with_reducible refine kn_raise ?_ | with_reducible refine ⟨_, fldP_taken (by assumption), ?_⟩ | with_reducible refine ⟨_, fldP_given (by assumption), ?_⟩ | with_reducible refine ⟨_, fldP_places (by assumption), ?_⟩ | with_reducible refine ⟨_, fldP_begin (by assumption), ?_⟩ | with_reducible refine ⟨_, fldP_steps (by assumption), ?_⟩ | with_reducible refine ⟨_, _, _, _, dic_D, rfl, ?_⟩ | refine ⟨ins_plan rfl, ?_⟩ | with_reducible refine we_mk ?_ | with_reducible refine we_cT ?_ | with_reducible refine we_cR ?_ | with_reducible refine ops_isO ?_ | with_reducible refine ops_notO ?_ | with_reducible refine ops_isX ?_ | with_reducible refine ops_notX ?_ | with_reducible refine ops_isN ?_ | with_reducible refine ops_notN ?_ | with_reducible refine ops_eqD (by decide) ?_ | with_reducible refine ops_neD (by decide) ?_ | with_reducible apply wt_and | with_reducible apply wt_or | with_reducible refine im_t (fun _ => ?_) | with_reducible refine im_f (fun _ => ?_) | with_reducible refine im_tv (fun _ => ?_) | with_reducible refine im_fv (fun _ => ?_) | with_reducible refine cb_isi ty_L kit_ll ?_ | with_reducible refine cb_isi ty_T kit_tt ?_ | with_reducible refine cb_isi ty_2 kit_tt ?_ | with_reducible refine cb_isi ty_I kit_ii ?_ | with_reducible refine cb_isi ty_I kit_ib ?_ | with_reducible refine cb_isi ty_B kit_bb ?_ | with_reducible refine cb_isi ty_S kit_ss ?_ | exact ⟨rfl, rfl⟩ | with_reducible refine ⟨_, rfl, ?_⟩ | refine ⟨_, _, _, rfl, ?_⟩)))
local macro_rules | `(tactic| and_intros) => `(tactic| (repeat (first | exact .nil | refine .cons (.inr rfl) ?_ | refine .cons (.inl rfl) ?_)))
local macro_rules | `(tactic| subst_vars) => `(tactic| (try dsimp only [List.set, List.eraseIdx, L2.envOf, List.map, Option.map]))
def topS (i : Nat) : Stmt := PySem.Challenge.pw_heldsteps_k61_plan_texts.main.body.getD i (.Pass ⟨0, 0, 0, 0⟩)
/-! ## bagB -/
section
variable {P : Program} {w : World} {K : PySem.W.Frag} {mg : Str → Option Value} {base : Heap}
/-! the box of draws of family B -/
def m_draw (m : Int) : DM Int := fun Q _ => drawD m Q
theorem fmod_box {x m : Int} (h : 0 < m) : 0 ≤ x.fmod m ∧ x.fmod m < m := ⟨Int.fmod_nonneg_of_pos _ h, Int.fmod_lt_of_pos _ h⟩
theorem big200 {m : Int} (h0 : 0 < m) (h : m ≤ 10 ^ 40) : m.natAbs < 2 ^ 200 := by
  have e : (10 : Int) ^ 40 < 2 ^ 200 := by decide
  have e2 : ((2 ^ 200 : Nat) : Int) = 2 ^ 200 := by decide
  omega
abbrev s__law_bag : Stmt := topS 28
theorem sc__law_bag : FnScope ["_law_script", "_law_cell"] ["_law_script"] (defScope s__law_bag) := ⟨rfl, rfl, rfl, by decide +kernel, rfl, by decide +kernel, by decide +kernel⟩
theorem ok__law_bag {k : Nat} (B : Bl mg) (F : Src K mg "_law_bag" s__law_bag ["_law_script"]) : Def P w K mg base CX0 (k + 1) "_law_bag" ["_law_script"] (spN (preBag K 4)) := by
  refine F.okN sc__law_bag (fun qs out err ⟨_, h, _⟩ => by rw [h]; rfl) (fun f cdv A outer s H E qs out err hr ⟨ns, e1, e2, e3⟩ => ?_)
  subst e1 e2 e3
  refine ⟨_, (pss_one (ps_ret (pe_lst (pa_cons (pe_lc (own := [("_law_cell", 1)]) (g := gName 1) (by rfl) sc__law_bag.nd (kpi_list (K := K) (pv 0)) (blkOk_by (N := ["_law_script", "_law_cell"]) (sc := defScope s__law_bag) (by decide +kernel)) (fun _ _ _ _ _ => (pg_name (i := 1) sc__law_bag.nd rfl (Or.inl rfl))) (fun _ _ _ _ _ => pts_nil) (fun _ _ _ _ _ => (pe_callTy call_int1 (by rfl) B.int' (by decide +kernel) (pa_cons (pv 1) pa_nil)))) (pa_cons pe_int (pa_cons pe_int (pa_cons pe_int (pa_cons pe_int pa_nil)))))))), fun fr Q hret => ?_⟩
  refine kn_ret (we_bag (m := 4) (wa_cons (we_lcM0 (r := zI) (s := zI) (wi_scr (we_var rfl ⟨ns, rfl, fun e => ⟨_, fun x => x, _, rfl, rfl, e, fun x => tg_name, fun x c => we_cb (wa_cons (we_var rfl (wa_nil (cb_int ⟨rfl, rfl⟩)))), ?_⟩⟩)))))
  refine wa_cons (we_cI (wa_cons (we_cI (wa_cons (we_cI (wa_cons (we_cI (wa_nil ⟨_, [0, 0, 0, 7], rfl, rfl, by decide, fun i h => ?_, fun b l => ?_⟩))))))))
  · cases h
    decide
  · exact hret _ _ ⟨b, l, rfl, rfl⟩ (fun c hc => by rw [List.mem_singleton.mp hc]; rfl) _ [] (by simp)
abbrev s__law_draw : Stmt := topS 29
theorem sc__law_draw : FnScope ["_law_bag_here", "_law_many", "_law_cell", "_law_digit"] ["_law_bag_here", "_law_many"] (defScope s__law_draw) := ⟨rfl, rfl, rfl, by decide +kernel, rfl, by decide +kernel, by decide +kernel⟩
theorem ok__law_draw {k : Nat} (B : Bl mg) (F : Src K mg "_law_draw" s__law_draw ["_law_bag_here", "_law_many"]) : Def P w K mg base CX0 (k + 1) "_law_draw" ["_law_bag_here", "_law_many"] (spC (preK (cBag 4) (preBW (fun x : Int => [iz zI x]) zI m_draw))) := by
  refine F.okKW (fun _ _ => rfl) sc__law_draw (fun _ => rfl) (fun f cdv A outer s H E b l m Q hr h => ⟨_, (pss_cons (ps_asg (pe_op op_add (pe_ix (kix_list (K := K)) (pv 0) pe_int (fun _ _ => rfl)) pe_int) (pg_sub (pv 0) pe_int set_list))
 (C8.pss_cut (ps_if (PW.pt (pw_and (pt_cmpR op_eq (pe_ix (kix_list (K := K)) (pv 0) pe_int (fun _ _ => rfl)) pe_int (nomark _)) (pw_and1 (pt_cmpR op_lt (pe_ix (kix_list (K := K)) (pv 0) pe_int (fun _ _ => rfl)) (pe_callB (kcall_len (K := K)) (by rfl) B.len PySem.boot_len (pa_cons (pe_ix (kix_list (K := K)) (pv 0) pe_int (fun _ _ => rfl)) pa_nil)) (nomark _))))) (pss_cons (ps_asg (pe_ix (kix_list (K := K)) (pe_ix (kix_list (K := K)) (pv 0) pe_int (fun _ _ => rfl)) (pe_ix (kix_list (K := K)) (pv 0) pe_int (fun _ _ => rfl)) (fun _ _ => rfl)) (pg_name (i := 2) sc__law_draw.nd rfl (Or.inl rfl)))
 (pss_cons (ps_asg (pe_op op_add (pe_ix (kix_list (K := K)) (pv 0) pe_int (fun _ _ => rfl)) pe_int) (pg_sub (pv 0) pe_int set_list))
 (pss_one (ps_if (pt_cmpR op_ge (pv 2) (pe_op op_pow pe_int pe_int) (nomark _)) (pss_one (ps_asg (pv 2) (pg_sub (pv 0) pe_int set_list))) (pss_one (ps_asg (pe_op op_modN (pe_callTy call_int1 (by rfl) B.int' (by decide +kernel) (pa_cons (pe_op op_add (pe_op op_mul (pe_ix (kix_list (K := K)) (pv 0) pe_int (fun _ _ => rfl)) pe_int) (pv 2)) pa_nil)) pe_int) (pg_sub (pv 0) pe_int set_list))))))) pss_nil)
 (pss_cons (ps_if (pt_cmpR op_gt (pe_ix (kix_list (K := K)) (pv 0) pe_int (fun _ _ => rfl)) pe_int (nomark _)) (pss_cons (ps_asg (pe_op op_modN (pe_callTy call_int1 (by rfl) B.int' (by decide +kernel) (pa_cons (pe_ix (kix_list (K := K)) (pv 0) pe_int (fun _ _ => rfl)) pa_nil)) (pv 1)) (pg_name (i := 3) sc__law_draw.nd rfl (Or.inl rfl)))
 (pss_cons (ps_asg (pe_op op_fdivW (pe_ix (kix_list (K := K)) (pv 0) pe_int (fun _ _ => rfl)) (pv 1)) (pg_sub (pv 0) pe_int set_list))
 (pss_one (ps_ret (pv 3))))) pss_nil)
 (pss_cons (ps_asg (pe_op op_modN (pe_callTy call_int1 (by rfl) B.int' (by decide +kernel) (pa_cons (pe_op op_add (pe_op op_add (pe_op op_mul (pe_ix (kix_list (K := K)) (pv 0) pe_int (fun _ _ => rfl)) pe_int) (pe_op op_mul (pe_ix (kix_list (K := K)) (pv 0) pe_int (fun _ _ => rfl)) pe_int)) pe_int) pa_nil)) pe_int) (pg_sub (pv 0) pe_int set_list))
 (pss_one (ps_ret (pe_op op_modN (pe_callTy call_int1 (by rfl) B.int' (by decide +kernel) (pa_cons (pe_op op_fdivN (pe_op op_modN (pe_callTy call_int1 (by rfl) B.int' (by decide +kernel) (pa_cons (pe_op op_add (pe_op op_mul (pe_ix (kix_list (K := K)) (pv 0) pe_int (fun _ _ => rfl)) pe_int) (pe_op op_mul (pe_ix (kix_list (K := K)) (pv 0) pe_int (fun _ _ => rfl)) pe_int)) pa_nil)) pe_int) pe_int) pa_nil)) (pv 1)))))))), fun fr Qv hret => ?_⟩)
  obtain ⟨m0, m1, h⟩ := h
  refine kn_bag (j := 0) rfl fun ns is hl hi => ?_
  obtain ⟨i, c, n, r, rfl⟩ : ∃ i c n r, is = [i, c, n, r] := by
    match is, hl with
    | [i, c, n, r], _ => exact ⟨i, c, n, r, rfl⟩
  have hi := hi i rfl
  refine kn_seq (kb_set (i := 0) (m := 2) (j := 0) rfl (we_op (we_op (we_var rfl (we_cI (ob_ix (j := 0) (m := 2) rfl rfl rfl (we_cI (ops_I0 (we_cI ⟨_, _, rfl, rfl, rfl, by simp, rfl, ?_⟩)))))))))
  try dsimp only
  refine kn_cut (fun Γ Θ => ∃ i c r : Int, 0 ≤ i ∧ Γ = [some (zAt b), some (iz zI m), none, none] ∧ Θ = [cBg b l ns [i, c, n + 1, r]]) ?_ ?_
  · refine kn_if (wt_and (b := decide (c = 0)) (c := decide (i < (ns.length : Int))) ?_ (fun _ => ?_) ⟨fun hc => ?_, fun hc => ?_⟩)
    · exact wt_test (we_op (we_op (we_var rfl (we_cI (ob_ix (j := 0) (m := 1) rfl rfl rfl (we_cI (ops_eqI ⟨_, rfl, ⟨rfl, rfl⟩⟩)))))))
    · refine wt_test (we_op (we_op (we_var rfl (we_cI (ob_ix (j := 0) (m := 0) rfl rfl rfl ?_)))))
      refine we_cb (wa_cons (we_op (we_var rfl (we_cI (ob_ix0 (j := 0) rfl (wa_nil ?_))))))
      exact cy_len sy_L fun e => ops_B0 ⟨_, rfl, ⟨rfl, rfl⟩⟩
    · rw [Bool.and_eq_true, decide_eq_true_iff, decide_eq_true_iff] at hc
      obtain ⟨j, rfl⟩ : ∃ j : Nat, i = j := ⟨i.toNat, by omega⟩
      have hj : j < ns.length := by omega
      refine kn_seq (kn_asg (we_op (we_op (we_var rfl (we_cI (ob_ix0 (j := 0) rfl (we_op (we_var rfl (we_cI (ob_ix (j := 0) (m := 0) rfl rfl rfl (oy_ixL (atI_nat (List.getElem?_eq_getElem hj)) ?_)))))))))))
      try dsimp only
      refine kn_seq (kb_set (i := 0) (m := 0) (j := 0) rfl (we_op (we_op (we_var rfl (we_cI (ob_ix (j := 0) (m := 0) rfl rfl rfl (we_cI (ops_I0 (we_cI ⟨_, _, rfl, rfl, rfl, by simp, rfl, ?_⟩)))))))))
      try dsimp only
      refine kn_if (wt_test (we_op (we_var rfl (we_op (we_cI (we_cI (ops_IC ⟨by decide, by decide, by decide⟩ (ops_B0 ⟨_, rfl, ⟨fun _ => ?_, fun _ => ?_⟩⟩))))))))
      · refine kb_set (i := 0) (m := 1) (j := 0) rfl (we_var rfl (we_cI ⟨_, _, rfl, rfl, rfl, by simp, rfl, ?_⟩))
        exact kn_mid ⟨_, by and_intros, _, _, _, by omega, rfl, rfl⟩
      · refine kb_set (i := 0) (m := 3) (j := 0) rfl (we_op (we_cb (wa_cons (we_op (we_op (we_op (we_var rfl (we_cI (ob_ix (j := 0) (m := 3) rfl rfl rfl (we_cI (ops_IC (.inr ⟨by decide, by decide⟩) (we_var rfl (ops_I0 (wa_nil (cb_int (we_cI (ops_IC (C := fun _ j => j ≠ 0) (by decide) (we_cI ⟨_, _, rfl, rfl, rfl, by simp, rfl, ?_⟩))))))))))))))))))
        exact kn_mid ⟨_, by and_intros, _, _, _, by omega, rfl, rfl⟩
    · refine kn_next ?_
      exact kn_mid ⟨_, by and_intros, i, c, r, hi, rfl, rfl⟩
  · rintro Γ Θ ⟨i, c, r, hi, rfl, rfl⟩
    have fin : ∀ {fr' : L2.Fr} {is : List Int} {v : Int}, FrLe fr fr' → is.length = 4 → (∀ i, is[0]? = some i → 0 ≤ i) → 0 ≤ v → v < m → Rt fr' [cBg b l ns is] Qv (iz zI v) := fun {fr' is v} le h1 h2 h3 h4 => rt_bag (j := 0) rfl h1 h2 ((hret.fine le) _ (h v h3 h4) _ (.head _))
    have le0 : FrLe fr fr := ⟨rfl, rfl, Same.refl _, fun a o h => .inl ⟨o, h⟩⟩
    refine kn_seq (kn_if (wt_test (we_op (we_op (we_var rfl (we_cI (ob_ix (j := 0) (m := 1) rfl rfl rfl (we_cI (ops_B0 ⟨_, rfl, ⟨fun hc => ?_, fun hc => ?_⟩⟩)))))))))
    · have hc : c > 0 := of_decide_eq_true hc
      refine kn_seq (kn_asg (we_op (we_cb (wa_cons (we_op (we_var rfl (we_cI (ob_ix (j := 0) (m := 1) rfl rfl rfl (wa_nil (cb_int (we_var rfl (ops_IC (C := fun _ j => j ≠ 0) (by omega) ?_))))))))))))
      try dsimp only
      refine kn_seq (kb_set (i := 0) (m := 1) (j := 0) rfl (we_op (we_op (we_var rfl (we_cI (ob_ix (j := 0) (m := 1) rfl rfl rfl (we_var rfl (ops_IC (wide_div (b := 200) m0 (big200 m0 m1) (by decide) (by decide)) (we_cI ⟨_, _, rfl, rfl, rfl, by simp, rfl, ?_⟩)))))))))
      try dsimp only
      refine kn_ret (we_var rfl ?_)
      have fb := fmod_box (x := c) m0
      exact fin le0 rfl (fun j hj => by cases hj; exact hi) fb.1 fb.2
    · refine kn_next ?_
      try dsimp only
      refine kn_seq (kb_set (i := 0) (m := 3) (j := 0) rfl (we_op (we_cb (wa_cons (we_op (we_op (we_op (we_op (we_var rfl (we_cI (ob_ix (j := 0) (m := 3) rfl rfl rfl (we_cI (ops_IC (.inr ⟨by decide, by decide⟩) (we_op (we_op (we_var rfl (we_cI (ob_ix (j := 0) (m := 2) rfl rfl rfl (we_cI (ops_IC (.inr ⟨by decide, by decide⟩) (ops_I0 (we_cI (ops_I0 (wa_nil (cb_int (we_cI (ops_IC (C := fun _ j => j ≠ 0) (by decide) (we_cI ⟨_, _, rfl, rfl, rfl, by simp, rfl, ?_⟩))))))))))))))))))))))))))))
      try dsimp only
      refine kn_ret (we_op (we_cb (wa_cons (we_op (we_op (we_cb (wa_cons (we_op (we_op (we_op (we_var rfl (we_cI (ob_ix (j := 0) (m := 3) rfl rfl rfl (we_cI (ops_IC (.inr ⟨by decide, by decide⟩) (we_op (we_op (we_var rfl (we_cI (ob_ix (j := 0) (m := 2) rfl rfl rfl (we_cI (ops_IC (.inr ⟨by decide, by decide⟩) (ops_I0 (wa_nil (cb_int (we_cI (ops_IC (C := fun _ j => j ≠ 0) (by decide) (we_cI (ops_IC ⟨by decide, by decide⟩ (wa_nil (cb_int (we_var rfl (ops_IC (C := fun _ j => j ≠ 0) (by omega) ?_)))))))))))))))))))))))))))))))))
      have fb := fmod_box (x := Int.fdiv (Int.fmod (Int.fmod (r * 48271 + (n + 1) * 69621 + 11) 2147483647 * 16807 + (n + 1) * 40692) 2147483629) 5) m0
      exact fin le0 rfl (fun j hj => by cases hj; exact hi) fb.1 fb.2
end

/-! ## anyB -/
section
variable {P : Program} {w : World} {K : PySem.W.Frag} {mg : Str → Option Value} {base : Heap}
abbrev s__law_word : Stmt := topS 30
theorem sc__law_word : FnScope ["_law_bag_here", "_law_used", "_law_signs", "_law_base", "_law_k", "_law_word_here"] ["_law_bag_here", "_law_used"] (defScope s__law_word) := ⟨rfl, rfl, rfl, by decide +kernel, rfl, by decide +kernel, by decide +kernel⟩
def m__law_word (p_law_used : (List Str)) : DM Str := fun Q X =>
  m_draw (26 : Int) (fun v1 =>
  ∃ v2, atI (("abcdefghijklmnopqrstuvwxyz0123456789" : Str)).cps.toList v1 = some v2 ∧
  ∀ base3, base3 = (⟨#[v2]⟩ : Str) →
  m_draw (4 : Int) (fun v6 =>
  m_draw (4 : Int) (fun v7 =>
  CMul v6 v7 ∧
  (-100000 ≤ (v6 * v7) ∧ (v6 * v7) ≤ 100000) ∧
  forD (intsF 0 ((v6 * v7)).toNat) base3 (fun x5 s4 nx bk =>
  m_draw (36 : Int) (fun v10 =>
  ∃ v11, atI (("abcdefghijklmnopqrstuvwxyz0123456789" : Str)).cps.toList v10 = some v11 ∧
  (s4).length + ((⟨#[v11]⟩ : Str)).length ≤ big ∧
  ∀ base13, base13 = (s4 ++ (⟨#[v11]⟩ : Str)) →
  nx base13) noX) (fun s4 =>
  forD (intsF 0 (((p_law_used).length : Int)).toNat) s4 (fun x15 s14 nx bk =>
  ifD (!decide (s14 ∈ p_law_used)) (
  Q s14) (
  CStr x15 ∧
  (s4).length + ((numS x15)).length ≤ big ∧
  ∀ word19, word19 = (s4 ++ (numS x15)) →
  nx word19)) (fun s14 =>
  Q s14))) noX) noX) noX
theorem ok__law_word {k : Nat} {cs : EK → Addr} (B : Bl mg) (D__law_draw : Def P w K mg base CX0 k "_law_draw" ["_law_bag_here", "_law_many"] (spC (preK (cBag 4) (preBW (fun x : Int => [iz zI x]) zI m_draw))))
    (F : Src K mg "_law_word" s__law_word ["_law_bag_here", "_law_used"]) : Def P w K mg base CX0 (k + 1) "_law_word" ["_law_bag_here", "_law_used"] (spC (preK (cBag 4) (preBW (fun x : (List Str) => [iz (yL yS) x]) yS (fun x => m__law_word x)))) := by
  refine F.okKW (fun _ _ => rfl) sc__law_word (fun _ => rfl) (fun f cdv A outer s H E b l p_law_used Q hr h => ⟨_, (pss_cons (ps_asg pe_str (pg_name (i := 2) sc__law_word.nd rfl (Or.inl rfl)))
 (pss_cons (ps_asg (pe_ix ix_str (pv 2) (pe_def D__law_draw hr pass0 (pa_cons (pv 0) (pa_cons pe_int pa_nil))) (fun _ _ => rfl)) (pg_name (i := 3) sc__law_word.nd rfl (Or.inl rfl)))
 (pss_cons (ps_for PassesOwn.never rfl (pi_range1 (by rfl) B.range (pa_cons (pe_op op_mul (pe_def D__law_draw hr pass0 (pa_cons (pv 0) (pa_cons pe_int pa_nil))) (pe_def D__law_draw hr pass0 (pa_cons (pv 0) (pa_cons pe_int pa_nil)))) pa_nil)) (pg_name (i := 4) sc__law_word.nd rfl (Or.inl rfl)) (pss_one (ps_asg (pe_op op_add_str (pv 3) (pe_ix ix_str (pv 2) (pe_def D__law_draw hr pass0 (pa_cons (pv 0) (pa_cons pe_int pa_nil))) (fun _ _ => rfl))) (pg_name (i := 3) sc__law_word.nd rfl (Or.inl rfl)))))
 (pss_cons (ps_asg (pv 3) (pg_name (i := 5) sc__law_word.nd rfl (Or.inl rfl)))
 (pss_cons (ps_for PassesOwn.never rfl (pi_range1 (by rfl) B.range (pa_cons (pe_callB (kcall_len (K := K)) (by rfl) B.len PySem.boot_len (pa_cons (pv 1) pa_nil)) pa_nil)) (pg_name (i := 4) sc__law_word.nd rfl (Or.inl rfl)) (pss_cons (ps_if (pt_cmpR (kop_notIn (K := K)) (pv 5) (pv 1) rfl) (pss_one (ps_ret (pv 5))) pss_nil)
 (pss_one (ps_asg (pe_op op_add_str (pv 3) (pe_callTy call_str_int (by rfl) B.str' (by decide +kernel) (pa_cons (pv 4) pa_nil))) (pg_name (i := 5) sc__law_word.nd rfl (Or.inl rfl))))))
 (pss_one (ps_ret (pv 5)))))))), fun fr Qv hret => ?_⟩)
  replace h : m__law_word p_law_used Q noX := h
  unfold m__law_word at h
  refine kn_seq (kn_asg (i := 2) (we_cSy (z := "abcdefghijklmnopqrstuvwxyz0123456789") (asc_of (by decide)) (by decide) ?_))
  try dsimp only
  refine kn_seq (kn_asgL (i := 3) (r := yS) (we_op (we_var rfl (we_callE (wa_cons (we_var rfl (wa_cons (we_cI (wa_nil ?_)))))))))
  refine sps_KW (mk := cBag 4) (j := 0) rfl (26 : Int) h (fun v1 h => ?_)
  obtain ⟨v2, ev2, h⟩ := h
  refine oy_ixS ev2 (⟨_, rfl, fun base3 ebase3 => ?_⟩)
  have h := h base3 ebase3
  try dsimp only
  refine kn_seq (kn_forW (r := zI) (S := Str) (fun s4 => [some (zAt b), some (iz (yL yS) p_law_used), some (iz yS ("abcdefghijklmnopqrstuvwxyz0123456789" : Str)), some (iz yS s4), none, none]) (fun s4 => [cBag 4 b l]) base3 (wi_range (wa_cons (we_op (we_callE (wa_cons (we_var rfl (wa_cons (we_cI (wa_nil ?_))))))))))
  refine sps_KW (mk := cBag 4) (j := 0) rfl (4 : Int) h (fun v6 h => ?_)
  refine we_callE (wa_cons (we_var rfl (wa_cons (we_cI (wa_nil ?_)))))
  refine sps_KW (mk := cBag 4) (j := 0) rfl (4 : Int) h (fun v7 h => ?_)
  obtain ⟨g8, h⟩ := h
  refine ops_IC g8 (wa_nil ?_)
  obtain ⟨g9, h⟩ := h
  refine ⟨_, rfl, (by have hb : big = 100000 := rfl; omega), (by have hb : big = 100000 := rfl; omega), ⟨_, _, _, _, _, rfl, rfl, (by and_intros), fun _ _ => tg_name, h, fun fr' le x5 s4 nx M hnx hbk h => ?_, fun s4 h => ?_⟩⟩
  · have hret := hret.fine le
    refine kn_asgL (i := 3) (r := yS) (we_op (we_var rfl (we_op (we_var rfl (we_callE (wa_cons (we_var rfl (wa_cons (we_cI (wa_nil ?_))))))))))
    refine sps_KW (mk := cBag 4) (j := 0) rfl (36 : Int) h (fun v10 h => ?_)
    obtain ⟨v11, ev11, h⟩ := h
    refine oy_ixS ev11 ?_
    obtain ⟨g12, h⟩ := h
    refine oy_addS g12 (⟨_, rfl, fun base13 ebase13 => ?_⟩)
    have h := h base13 ebase13
    exact hnx base13 _ _ h (by and_intros) rfl
  try dsimp only
  refine kn_seq (kn_asg (i := 5) (we_var rfl ?_))
  try dsimp only
  refine kn_seq (kn_forW (r := zI) (S := Str) (fun s14 => [some (zAt b), some (iz (yL yS) p_law_used), some (iz yS ("abcdefghijklmnopqrstuvwxyz0123456789" : Str)), some (iz yS s4), none, some (iz yS s14)]) (fun s14 => [cBag 4 b l]) s4 (wi_range (wa_cons (we_cb (wa_cons (we_var rfl (wa_nil (cy_len sy_L (fun e16 => (wa_nil (⟨_, rfl, (by have hb : big = 100000 := rfl; omega), (by have hb : big = 100000 := rfl; omega), ⟨_, _, _, _, _, rfl, rfl, (by and_intros), fun _ _ => tg_name, h, fun fr' le x15 s14 nx M hnx hbk h => ?_, fun s14 h => ?_⟩⟩)))))))))))
  · have hret := hret.fine le
    refine kn_seq (kn_if (wt_test (we_op (we_var rfl (we_var rfl (oy_ninS sy_L (⟨_, rfl, ⟨fun hc => ?_, fun hc => ?_⟩⟩)))))))
    · have h := h.1 hc
      refine kn_ret (we_var rfl ?_)
      exact hret _ h _ (List.mem_of_getElem? (i := 0) rfl)
    · have h := h.2 hc
      refine kn_next ?_
      try dsimp only
      refine kn_asgL (i := 5) (r := yS) (we_op (we_var rfl (we_cb (wa_cons (we_var rfl (wa_nil ?_))))))
      obtain ⟨g17, h⟩ := h
      refine cy_str g17 ?_
      obtain ⟨g18, h⟩ := h
      refine oy_addS g18 (⟨_, rfl, fun word19 eword19 => ?_⟩)
      have h := h word19 eword19
      exact hnx word19 _ _ h (by and_intros) rfl
  try dsimp only
  refine kn_ret (we_var rfl ?_)
  exact hret _ h _ (List.mem_of_getElem? (i := 0) rfl)
abbrev s__law_subset : Stmt := topS 32
theorem sc__law_subset : FnScope ["_law_bag_here", "_law_words", "_law_least", "_law_chosen", "_law_word_here"] ["_law_bag_here", "_law_words", "_law_least"] (defScope s__law_subset) := ⟨rfl, rfl, rfl, by decide +kernel, rfl, by decide +kernel, by decide +kernel⟩
def m__law_subset (p_law_words : (List Str)) (p_law_least : Int) : DM (List Str) := fun Q X =>
  forD p_law_words ([]) (fun x3 s2 nx bk =>
  m_draw (3 : Int) (fun v5 =>
  ifD (decide (v5 = (0 : Int))) (
  (s2).length < big ∧
  nx (s2 ++ [x3])) (
  nx s2)) noX) (fun s2 =>
  joinD (fun j8 =>
  ifD (decide (((s2).length : Int) < p_law_least)) (
  m_draw ((p_law_words).length : Int) (fun v11 =>
  ∃ v12, atI p_law_words v11 = some v12 ∧
  ∀ chosen13, chosen13 = [v12] →
  j8 chosen13) noX) (
  j8 s2)) (fun s7 : (List Str) =>
  Q s7))
theorem ok__law_subset {k : Nat} {cs : EK → Addr} (B : Bl mg) (D__law_draw : Def P w K mg base CX0 k "_law_draw" ["_law_bag_here", "_law_many"] (spC (preK (cBag 4) (preBW (fun x : Int => [iz zI x]) zI m_draw))))
    (F : Src K mg "_law_subset" s__law_subset ["_law_bag_here", "_law_words", "_law_least"]) : Def P w K mg base CX0 (k + 1) "_law_subset" ["_law_bag_here", "_law_words", "_law_least"] (spC (preK (cBag 4) (preBW (fun x : (List Str) × Int => [iz (yL yS) x.1, iz zI x.2]) (yL yS) (fun x => m__law_subset x.1 x.2)))) := by
  refine F.okKW (fun _ _ => rfl) sc__law_subset (fun _ => rfl) (fun f cdv A outer s H E b l x Q hr h => ⟨_, (pss_cons (ps_asg (pe_lst pa_nil) (pg_name (i := 3) sc__law_subset.nd rfl (Or.inl rfl)))
 (pss_cons (ps_for PassesOwn.never rfl (kpi_list (K := K) (pv 1)) (pg_name (i := 4) sc__law_subset.nd rfl (Or.inl rfl)) (pss_one (ps_if (pt_cmpR op_eq (pe_def D__law_draw hr pass0 (pa_cons (pv 0) (pa_cons pe_int pa_nil))) pe_int (nomark _)) (pss_one (ps_expr (pe_bm PySem.F.plainAttrs_list PySem.F.slot_list_append PySem.F.type_list_append mt_append (pv 3) (pa_cons (pv 4) pa_nil)))) pss_nil)))
 (C8.pss_cut (ps_if (pt_cmpR op_lt (pe_callB (kcall_len (K := K)) (by rfl) B.len PySem.boot_len (pa_cons (pv 3) pa_nil)) (pv 2) (nomark _)) (pss_one (ps_asg (pe_lst (pa_cons (pe_ix (kix_list (K := K)) (pv 1) (pe_def D__law_draw hr pass0 (pa_cons (pv 0) (pa_cons (pe_callB (kcall_len (K := K)) (by rfl) B.len PySem.boot_len (pa_cons (pv 1) pa_nil)) pa_nil))) (fun _ _ => rfl)) pa_nil)) (pg_name (i := 3) sc__law_subset.nd rfl (Or.inl rfl)))) pss_nil)
 (pss_one (ps_ret (pv 3)))))), fun fr Qv hret => ?_⟩)
  obtain ⟨p_law_words, p_law_least⟩ := x
  replace h : m__law_subset p_law_words p_law_least Q noX := h
  unfold m__law_subset at h
  refine kn_seq (kn_asg (i := 3) (we_ownY yS (wa_nil (⟨[], rfl, Nat.le_of_ble_eq_true rfl, fun a1 => ?_⟩))))
  try dsimp only
  refine kn_seq (kn_forW (r := yS) (S := (List Str)) (fun s2 => [some (zAt b), some (iz (yL yS) p_law_words), some (iz zI p_law_least), some (zAt a1), none]) (fun s2 => [cY a1 yS s2, cBag 4 b l]) ([]) (wi_yL (we_var rfl (⟨_, _, _, rfl, fun e4 => ⟨_, _, _, _, _, rfl, rfl, (by and_intros), fun _ _ => tg_name, h, fun fr' le x3 s2 nx M hnx hbk h => ?_, fun s2 h => ?_⟩⟩))))
  · have hret := hret.fine le
    refine kn_if (wt_test (we_op (we_callE (wa_cons (we_var rfl (wa_cons (we_cI (wa_nil ?_))))))))
    refine sps_KW (mk := cBag 4) (j := 1) rfl (3 : Int) h (fun v5 h => ?_)
    refine we_cI (ops_eqI (⟨_, rfl, ⟨fun hc => ?_, fun hc => ?_⟩⟩))
    · have h := h.1 hc
      refine kn_appY (i := 3) (j := 0) rfl rfl (we_var rfl ?_)
      obtain ⟨g6, h⟩ := h
      refine ⟨_, rfl, rfl, g6, ?_⟩
      exact hnx (s2 ++ [x3]) _ _ h (by and_intros) rfl
    · have h := h.2 hc
      refine kn_next ?_
      exact hnx s2 _ _ h (by and_intros) rfl
  try dsimp only
  refine kn_frzY (i := 3) (j := 0) rfl rfl ?_
  refine kn_cutW (S := (List Str)) (fun s7 => [some (zAt b), some (iz (yL yS) p_law_words), some (iz zI p_law_least), some (iz (yL yS) s7), none]) (fun s7 => [cBag 4 b l]) h (fun M hjn h => ?_) (fun s7 h => ?_)
  · refine kn_if (wt_test (we_op (we_cb (wa_cons (we_var rfl (wa_nil (cy_len sy_L (fun e9 => (we_var rfl (ops_B0 (⟨_, rfl, ⟨fun hc => ?_, fun hc => ?_⟩⟩)))))))))))
    · have h := h.1 hc
      refine kn_asgL (i := 3) (r := (yL yS)) (we_lstY (r := yS) (wa_cons (we_op (we_var rfl (we_callE (wa_cons (we_var rfl (wa_cons (we_cb (wa_cons (we_var rfl (wa_nil (cy_len sy_L (fun e10 => (wa_nil ?_)))))))))))))))
      refine sps_KW (mk := cBag 4) (j := 0) rfl ((p_law_words).length : Int) h (fun v11 h => ?_)
      obtain ⟨v12, ev12, h⟩ := h
      refine oy_ixL ev12 (wa_nil (⟨[v12], rfl, Nat.le_of_ble_eq_true rfl, ⟨_, rfl, fun chosen13 echosen13 => ?_⟩⟩))
      have h := h chosen13 echosen13
      exact hjn chosen13 _ _ h (by and_intros) rfl
    · have h := h.2 hc
      refine kn_next ?_
      exact hjn s2 _ _ h (by and_intros) rfl
  try dsimp only
  refine kn_ret (we_var rfl ?_)
  exact hret _ h _ (List.mem_of_getElem? (i := 0) rfl)
abbrev s__law_any : Stmt := topS 33
theorem sc__law_any : FnScope ["_law_bag_here", "_law_most", "_law_reach", "_law_places", "_law_k", "_law_words", "_law_steps", "_law_name", "_law_row"] ["_law_bag_here", "_law_most", "_law_reach"] (defScope s__law_any) := ⟨rfl, rfl, rfl, by decide +kernel, rfl, by decide +kernel, by decide +kernel⟩
def m__law_any (p_law_most : (List Int)) (p_law_reach : Int) : DM ((List (Str × Int)) × (List (Str × (List Str) × (List Str)))) := fun Q X =>
  ∃ v4, atI p_law_most (0 : Int) = some v4 ∧
  (-100000 ≤ v4 ∧ v4 ≤ 100000) ∧
  forD (intsF 0 (v4).toNat) ([]) (fun x3 s2 nx bk =>
  m__law_word ((s2).map fun x6 => x6.1) (fun v8 =>
  m_draw p_law_reach (fun v9 =>
  (s2).length < big ∧
  nx (s2 ++ [(v8, v9)])) noX) noX) (fun s2 =>
  ∀ words13, words13 = ((s2).map fun x11 => x11.1) →
  ∃ v17, atI p_law_most (1 : Int) = some v17 ∧
  CMul v17 (if (!decide (s2 = [])) then 1 else 0 : Int) ∧
  (-100000 ≤ (v17 * (if (!decide (s2 = [])) then 1 else 0 : Int)) ∧ (v17 * (if (!decide (s2 = [])) then 1 else 0 : Int)) ≤ 100000) ∧
  forD (intsF 0 ((v17 * (if (!decide (s2 = [])) then 1 else 0 : Int))).toNat) ([]) (fun x16 s15 nx bk =>
  m__law_word ((s15).map fun x20 => x20.1) (fun v22 =>
  m__law_subset words13 (1 : Int) (fun v23 =>
  m__law_subset words13 (0 : Int) (fun v24 =>
  (s15).length < big ∧
  nx (s15 ++ [(v22, v23, v24)])) noX) noX) noX) (fun s15 =>
  Q (s2, s15)))
theorem ok__law_any {k : Nat} {cs : EK → Addr} (B : Bl mg) (D__law_word : Def P w K mg base CX0 k "_law_word" ["_law_bag_here", "_law_used"] (spC (preK (cBag 4) (preBW (fun x : (List Str) => [iz (yL yS) x]) yS (fun x => m__law_word x))))) (D__law_draw : Def P w K mg base CX0 k "_law_draw" ["_law_bag_here", "_law_many"] (spC (preK (cBag 4) (preBW (fun x : Int => [iz zI x]) zI m_draw)))) (D__law_subset : Def P w K mg base CX0 k "_law_subset" ["_law_bag_here", "_law_words", "_law_least"] (spC (preK (cBag 4) (preBW (fun x : (List Str) × Int => [iz (yL yS) x.1, iz zI x.2]) (yL yS) (fun x => m__law_subset x.1 x.2)))))
    (F : Src K mg "_law_any" s__law_any ["_law_bag_here", "_law_most", "_law_reach"]) : Def P w K mg base CX0 (k + 1) "_law_any" ["_law_bag_here", "_law_most", "_law_reach"] (spC (preK (cBag 4) (preBW (fun x : (List Int) × Int => [iz (yL zI) x.1, iz zI x.2]) (zLp (yL (zLp yS zI)) (yL (zL3 yS (yL yS) (yL yS)))) (fun x => m__law_any x.1 x.2)))) := by
  refine F.okKW (fun _ _ => rfl) sc__law_any (fun _ => rfl) (fun f cdv A outer s H E b l x Q hr h => ⟨_, (pss_cons (ps_asg (pe_lst pa_nil) (pg_name (i := 3) sc__law_any.nd rfl (Or.inl rfl)))
 (pss_cons (ps_for PassesOwn.never rfl (pi_range1 (by rfl) B.range (pa_cons (pe_ix (kix_list (K := K)) (pv 1) pe_int (fun _ _ => rfl)) pa_nil)) (pg_name (i := 4) sc__law_any.nd rfl (Or.inl rfl)) (pss_one (ps_expr (pe_bm PySem.F.plainAttrs_list PySem.F.slot_list_append PySem.F.type_list_append mt_append (pv 3) (pa_cons (pe_lst (pa_cons (pe_def D__law_word hr pass0 (pa_cons (pv 0) (pa_cons (pe_lc (own := [("_law_row", 8)]) (g := gName 8) (by rfl) sc__law_any.nd (kpi_list (K := K) (pv 3)) (blkOk_by (N := ["_law_bag_here", "_law_most", "_law_reach", "_law_places", "_law_k", "_law_words", "_law_steps", "_law_name", "_law_row"]) (sc := defScope s__law_any) (by decide +kernel)) (fun _ _ _ _ _ => (pg_name (i := 8) sc__law_any.nd rfl (Or.inl rfl))) (fun _ _ _ _ _ => pts_nil) (fun _ _ _ _ _ => (pe_ix (kix_list (K := K)) (pv 8) pe_int (fun _ _ => rfl)))) pa_nil))) (pa_cons (pe_def D__law_draw hr pass0 (pa_cons (pv 0) (pa_cons (pv 2) pa_nil))) pa_nil))) pa_nil)))))
 (pss_cons (ps_setLc (i := 5) (own := [("_law_row", 8)]) (g := gName 8) (by rfl) sc__law_any.nd rfl rfl (sw_true rfl rfl rfl (by decide +kernel)) (kpi_list (K := K) (pv 3)) (blkOk_by (N := ["_law_bag_here", "_law_most", "_law_reach", "_law_places", "_law_k", "_law_words", "_law_steps", "_law_name", "_law_row"]) (sc := defScope s__law_any) (by decide +kernel)) (fun _ _ _ _ _ => (pg_name (i := 8) sc__law_any.nd rfl (Or.inl rfl))) (fun _ _ _ _ _ => pts_nil) (fun _ _ _ _ _ => (pe_ix (kix_list (K := K)) (pv 8) pe_int (fun _ _ => rfl))))
 (pss_cons (ps_asg (pe_lst pa_nil) (pg_name (i := 6) sc__law_any.nd rfl (Or.inl rfl)))
 (pss_cons (ps_for PassesOwn.never rfl (pi_range1 (by rfl) B.range (pa_cons (pe_op op_mul (pe_ix (kix_list (K := K)) (pv 1) pe_int (fun _ _ => rfl)) (pe_callTy call_int1 (by rfl) B.int' (by decide +kernel) (pa_cons (pe_cmpR (kop_neD (K := K) hr.units) (pv 3) (pe_lst pa_nil) (nomark _)) pa_nil))) pa_nil)) (pg_name (i := 4) sc__law_any.nd rfl (Or.inl rfl)) (pss_cons (ps_asg (pe_def D__law_word hr pass0 (pa_cons (pv 0) (pa_cons (pe_lc (own := [("_law_row", 8)]) (g := gName 8) (by rfl) sc__law_any.nd (kpi_list (K := K) (pv 6)) (blkOk_by (N := ["_law_bag_here", "_law_most", "_law_reach", "_law_places", "_law_k", "_law_words", "_law_steps", "_law_name", "_law_row"]) (sc := defScope s__law_any) (by decide +kernel)) (fun _ _ _ _ _ => (pg_name (i := 8) sc__law_any.nd rfl (Or.inl rfl))) (fun _ _ _ _ _ => pts_nil) (fun _ _ _ _ _ => (pe_ix (kix_list (K := K)) (pv 8) pe_int (fun _ _ => rfl)))) pa_nil))) (pg_name (i := 7) sc__law_any.nd rfl (Or.inl rfl)))
 (pss_one (ps_expr (pe_bm PySem.F.plainAttrs_list PySem.F.slot_list_append PySem.F.type_list_append mt_append (pv 6) (pa_cons (pe_lst (pa_cons (pv 7) (pa_cons (pe_def D__law_subset hr pass0 (pa_cons (pv 0) (pa_cons (pv 5) (pa_cons pe_int pa_nil)))) (pa_cons (pe_def D__law_subset hr pass0 (pa_cons (pv 0) (pa_cons (pv 5) (pa_cons pe_int pa_nil)))) pa_nil)))) pa_nil))))))
 (pss_one (ps_ret (pe_lst (pa_cons (pv 3) (pa_cons (pv 6) pa_nil)))))))))), fun fr Qv hret => ?_⟩)
  obtain ⟨p_law_most, p_law_reach⟩ := x
  replace h : m__law_any p_law_most p_law_reach Q noX := h
  unfold m__law_any at h
  refine kn_seq (kn_asg (i := 3) (we_ownY (zLp yS zI) (wa_nil (⟨[], rfl, Nat.le_of_ble_eq_true rfl, fun a1 => ?_⟩))))
  try dsimp only
  refine kn_seq (kn_forW (r := zI) (S := (List (Str × Int))) (fun s2 => [some (zAt b), some (iz (yL zI) p_law_most), some (iz zI p_law_reach), some (zAt a1), none, none, none, none, none]) (fun s2 => [cY a1 (zLp yS zI) s2, cBag 4 b l]) ([]) (wi_range (wa_cons (we_op (we_var rfl (we_cI ?_))))))
  obtain ⟨v4, ev4, h⟩ := h
  refine oy_ixL ev4 (wa_nil ?_)
  obtain ⟨g5, h⟩ := h
  refine ⟨_, rfl, (by have hb : big = 100000 := rfl; omega), (by have hb : big = 100000 := rfl; omega), ⟨_, _, _, _, _, rfl, rfl, (by and_intros), fun _ _ => tg_name, h, fun fr' le x3 s2 nx M hnx hbk h => ?_, fun s2 h => ?_⟩⟩
  · have hret := hret.fine le
    refine kn_appY (i := 3) (j := 0) rfl rfl (we_lstp (r := yS) (s := zI) (wa_cons (we_callE (wa_cons (we_var rfl (wa_cons (we_lcM0C (r := (zLp yS zI)) (s := yS) (wi_yC (i := 3) (j := 0) rfl rfl (fun e7 => (⟨_, fun x6 => x6.1, _, rfl, rfl, e7, fun x6 => tg_name, fun x6 c => we_op (we_var rfl (we_cI (oy_ixLp0 (⟨rfl, rfl⟩)))), wa_nil ?_⟩))))))))))
    refine sps_KW (mk := cBag 4) (j := 1) rfl ((s2).map fun x6 => x6.1) h (fun v8 h => ?_)
    refine wa_cons (we_callE (wa_cons (we_var rfl (wa_cons (we_var rfl (wa_nil ?_))))))
    refine sps_KW (mk := cBag 4) (j := 1) rfl p_law_reach h (fun v9 h => ?_)
    refine wa_nil (⟨_, _, rfl, ?_⟩)
    obtain ⟨g10, h⟩ := h
    refine ⟨_, rfl, rfl, g10, ?_⟩
    exact hnx (s2 ++ [(v8, v9)]) _ _ h (by and_intros) rfl
  try dsimp only
  refine kn_seq (kn_asgL (i := 5) (r := (yL yS)) (we_lcM0C (r := (zLp yS zI)) (s := yS) (wi_yC (i := 3) (j := 0) rfl rfl (fun e12 => (⟨_, fun x11 => x11.1, _, rfl, rfl, e12, fun x11 => tg_name, fun x11 c => we_op (we_var rfl (we_cI (oy_ixLp0 (⟨rfl, rfl⟩)))), ⟨_, rfl, fun words13 ewords13 => ?_⟩⟩)))))
  have h := h words13 ewords13
  try dsimp only
  refine kn_seq (kn_asg (i := 6) (we_ownY (zL3 yS (yL yS) (yL yS)) (wa_nil (⟨[], rfl, Nat.le_of_ble_eq_true rfl, fun a14 => ?_⟩))))
  try dsimp only
  refine kn_frzY (i := 3) (j := 1) rfl rfl ?_
  refine kn_seq (kn_forW (r := zI) (S := (List (Str × (List Str) × (List Str)))) (fun s15 => [some (zAt b), some (iz (yL zI) p_law_most), some (iz zI p_law_reach), some (iz (yL (zLp yS zI)) s2), none, some (iz (yL yS) words13), some (zAt a14), none, none]) (fun s15 => [cY a14 (zL3 yS (yL yS) (yL yS)) s15, cBag 4 b l]) ([]) (wi_range (wa_cons (we_op (we_op (we_var rfl (we_cI ?_)))))))
  obtain ⟨v17, ev17, h⟩ := h
  refine oy_ixL ev17 (we_cb (wa_cons (we_op (we_var rfl (we_lstY (r := (zLp yS zI)) (wa_nil (⟨[], rfl, Nat.le_of_ble_eq_true rfl, oq_ne (r := (yL (zLp yS zI))) (by decide) (wa_nil (cy_intB ?_))⟩)))))))
  obtain ⟨g18, h⟩ := h
  refine ops_IC g18 (wa_nil ?_)
  obtain ⟨g19, h⟩ := h
  refine ⟨_, rfl, (by have hb : big = 100000 := rfl; omega), (by have hb : big = 100000 := rfl; omega), ⟨_, _, _, _, _, rfl, rfl, (by and_intros), fun _ _ => tg_name, h, fun fr' le x16 s15 nx M hnx hbk h => ?_, fun s15 h => ?_⟩⟩
  · have hret := hret.fine le
    refine kn_seq (kn_asg (i := 7) (we_callE (wa_cons (we_var rfl (wa_cons (we_lcM0C (r := (zL3 yS (yL yS) (yL yS))) (s := yS) (wi_yC (i := 6) (j := 0) rfl rfl (fun e21 => (⟨_, fun x20 => x20.1, _, rfl, rfl, e21, fun x20 => tg_name, fun x20 c => we_op (we_var rfl (we_cI (oy_ixL30 (⟨rfl, rfl⟩)))), wa_nil ?_⟩)))))))))
    refine sps_KW (mk := cBag 4) (j := 1) rfl ((s15).map fun x20 => x20.1) h (fun v22 h => ?_)
    try dsimp only
    refine kn_appY (i := 6) (j := 0) rfl rfl (we_lst3 (r := yS) (s := (yL yS)) (o := (yL yS)) (wa_cons (we_var rfl (wa_cons (we_callE (wa_cons (we_var rfl (wa_cons (we_var rfl (wa_cons (we_cI (wa_nil ?_))))))))))))
    refine sps_KW (mk := cBag 4) (j := 1) rfl (words13, (1 : Int)) h (fun v23 h => ?_)
    refine wa_cons (we_callE (wa_cons (we_var rfl (wa_cons (we_var rfl (wa_cons (we_cI (wa_nil ?_))))))))
    refine sps_KW (mk := cBag 4) (j := 1) rfl (words13, (0 : Int)) h (fun v24 h => ?_)
    refine wa_nil (⟨_, _, _, rfl, ?_⟩)
    obtain ⟨g25, h⟩ := h
    refine ⟨_, rfl, rfl, g25, ?_⟩
    exact hnx (s15 ++ [(v22, v23, v24)]) _ _ h (by and_intros) rfl
  try dsimp only
  refine kn_frzY (i := 6) (j := 0) rfl rfl ?_
  refine kn_ret (we_lstp (r := (yL (zLp yS zI))) (s := (yL (zL3 yS (yL yS) (yL yS)))) (wa_cons (we_var rfl (wa_cons (we_var rfl (wa_nil (⟨_, _, rfl, ?_⟩)))))))
  exact hret _ h _ (List.mem_of_getElem? (i := 0) rfl)
end

/-! ## anyBp -/
section
/-! what is drawn: words, rows -/
theorem draw_ok {m : Int} {Q : Int → Prop} {X : HE → Prop} (h0 : 0 < m) (h1 : m ≤ 10 ^ 40) (h : ∀ n : Nat, (n : Int) < m → Q n) : m_draw m Q X := ⟨h0, h1, fun n n0 n1 => by
  obtain ⟨j, rfl⟩ : ∃ j : Nat, n = j := ⟨n.toNat, by omega⟩
  exact h j n1⟩
theorem pos_of_ne {α : Type} {l : List α} (h : l ≠ []) : 0 < l.length := by
  cases l with
  | nil => exact absurd rfl h
  | cons a l => exact Nat.succ_pos _
theorem lt_big {n : Nat} (h : n < 1000) : n < big := Nat.lt_trans h (by decide)
def SIG : List Nat := (("abcdefghijklmnopqrstuvwxyz0123456789" : Str)).cps.toList
theorem sig_len : SIG.length = 36 := by decide +kernel
theorem sig26 : ∀ j : Nat, j < 26 → (decide (SIG.getD j 0 ∈ LETTERS.cps.toList) && okc (SIG.getD j 0)) = true := by decide +kernel
theorem sig36 : ∀ j : Nat, j < 36 → okc (SIG.getD j 0) = true := by decide +kernel
theorem sig_at {j : Nat} (h : j < 36) : atI SIG (j : Int) = some (SIG.getD j 0) := by
  refine atI_nat ?_
  have : j < SIG.length := by rw [sig_len]; exact h
  rw [List.getD_eq_getElem?_getD, List.getElem?_eq_getElem this]
  rfl
theorem len_app (a b : Str) : (a ++ b).length = a.length + b.length := by
  show (a.cps ++ b.cps : Array Nat).size = _
  rw [Array.size_append]
  rfl
theorem cps_app (a b : Str) : (a ++ b).cps.toList = a.cps.toList ++ b.cps.toList := by
  show (a.cps ++ b.cps : Array Nat).toList = _
  simp
/-- the beginning of a word -/
structure Stem (n : Nat) (z : Str) : Prop where
  len : z.length ≤ n
  ex : ∃ c r, z.cps.toList = c :: r ∧ c ∈ LETTERS.cps.toList ∧ ∀ d ∈ c :: r, okc d = true
theorem Stem.app {n m : Nat} {z y : Str} (h : Stem n z) (hy : ∀ d ∈ y.cps.toList, okc d = true) (hl : y.length ≤ m) : Stem (n + m) (z ++ y) := by
  obtain ⟨c, r, e, h1, h2⟩ := h.ex
  refine ⟨by rw [len_app]; have := h.len; omega, c, r ++ y.cps.toList, by rw [cps_app, e]; rfl, h1, fun d hd => ?_⟩
  rw [← List.cons_append] at hd
  rcases List.mem_append.mp hd with q | q
  · exact h2 d q
  · exact hy d q
theorem Stem.isWd {n : Nat} {z : Str} (h : Stem n z) (hn : n ≤ 12) : Wd z := by
  obtain ⟨c, r, e, h1, h2⟩ := h.ex
  show wd z.cps.toList = true
  unfold L2.wd
  have hl : z.cps.toList.length ≤ 12 := Nat.le_trans h.len hn
  rw [e] at hl ⊢
  rw [Bool.and_eq_true, Bool.and_eq_true]
  exact ⟨decide_eq_true ⟨by rw [List.length_cons]; omega, hl⟩, decide_eq_true h1, List.all_eq_true.mpr h2⟩
theorem num_okc (n : Nat) : ∀ d ∈ (numS (n : Int)).cps.toList, okc d = true := fun d hd => by
  have e : (numS (n : Int)).cps.toList = TL.numL n := TL.tl_num n
  rw [e] at hd
  have h := TL.numL_digits n d hd
  have : ∀ d : Nat, 48 ≤ d → d ≤ 57 → okc d = true := by
    intro d h1 h2
    obtain ⟨j, rfl⟩ : ∃ j, d = 48 + j := ⟨d - 48, by omega⟩
    have hj : j < 10 := by omega
    have : ∀ j : Nat, j < 10 → okc (48 + j) = true := by decide +kernel
    exact this j hj
  exact this d (by omega) (by omega)
theorem num_lenN {n k : Nat} (hk : 0 < k) (h : n < 10 ^ k) : (numS (n : Int)).length ≤ k := by
  have e : (numS (n : Int)).cps.toList = TL.numL n := TL.tl_num n
  show (numS (n : Int)).cps.toList.length ≤ k
  rw [e]
  exact TL.numL_len hk h
theorem num_inj {m n : Nat} (h : numS (m : Int) = numS (n : Int)) : m = n := by
  have e : ∀ n : Nat, (numS (n : Int)).cps.toList = TL.numL n := fun n => TL.tl_num n
  refine TL.numL_inj ?_
  rw [← e, ← e, h]
theorem num_pos (n : Nat) : 0 < (numS (n : Int)).length := by
  have e : (numS (n : Int)).cps.toList = TL.numL n := TL.tl_num n
  show 0 < (numS (n : Int)).cps.toList.length
  rw [e]
  exact pos_of_ne (TL.numL_ne n)
theorem str_app_inj {a b c : Str} (h : a ++ b = a ++ c) : b = c := by
  have h := congrArg (fun z : Str => z.cps.toList) h
  simp only [cps_app, List.append_cancel_left_eq] at h
  cases b
  cases c
  simp only at h
  rw [Array.toList_inj.mp h]
/-- the candidates for a word -/
def cand (b : Str) : Nat → Str
  | 0 => b
  | n + 1 => b ++ numS (n : Int)
theorem cand_inj {b : Str} {m n : Nat} (h : cand b m = cand b n) : m = n := by
  have ne : ∀ k : Nat, b ++ numS (k : Int) ≠ b := fun k e => by
    have := congrArg Str.length e
    rw [len_app] at this
    have := num_pos k
    omega
  match m, n, h with
  | 0, 0, _ => rfl
  | 0, n + 1, h => exact absurd h.symm (ne n)
  | m + 1, 0, h => exact absurd h (ne m)
  | m + 1, n + 1, h => rw [num_inj (str_app_inj h)]
theorem nodup_map' {α β : Type} {f : α → β} {l : List α} (hf : ∀ x y, f x = f y → x = y) (h : l.Nodup) : (l.map f).Nodup := by
  induction l with
  | nil => exact List.nodup_nil
  | cons a l ih =>
    rw [List.nodup_cons] at h
    rw [List.map_cons, List.nodup_cons]
    refine ⟨fun hm => ?_, ih h.2⟩
    obtain ⟨y, hy, e⟩ := List.mem_map.mp hm
    rw [← hf _ _ e] at h
    exact h.1 hy
theorem cand_fresh {b : Str} {used : List Str} (h : ∀ j < used.length, cand b j ∈ used) : cand b used.length ∉ used := fun hm => by
  have h1 : ((List.range (used.length + 1)).map (cand b)).Nodup := nodup_map' (fun _ _ => cand_inj) List.nodup_range
  have h2 : ∀ x ∈ (List.range (used.length + 1)).map (cand b), x ∈ used := fun x hx => by
    obtain ⟨j, hj, rfl⟩ := List.mem_map.mp hx
    have hj := List.mem_range.mp hj
    by_cases e : j = used.length
    · rw [e]; exact hm
    · exact h j (by omega)
  have := List.Nodup.length_le_of_subset h1 h2
  rw [List.length_map, List.length_range] at this
  omega
theorem cand_stem {b : Str} (h : Stem 10 b) {n : Nat} (hn : n ≤ 100) : Stem 12 (cand b n) := by
  cases n with
  | zero => exact ⟨Nat.le_trans h.len (by decide), h.ex⟩
  | succ n => exact h.app (m := 2) (num_okc n) (num_lenN (by decide) (by show n < 100; omega))
theorem cstr_nat {n : Nat} (h : n < 10 ^ 40) : CStr (n : Int) := by
  unfold CStr
  rw [Int.natAbs_natCast]
  exact Nat.lt_trans h (by decide)
theorem intsF_split {n : Nat} {pre post : List Int} {x : Int} (h : intsF 0 n = pre ++ x :: post) : x = (pre.length : Int) ∧ pre.length < n := by
  have h1 : (intsF 0 n)[pre.length]? = some x := by rw [h]; simp
  obtain ⟨h2, h3⟩ := intsF_get h1
  exact ⟨by omega, h2⟩
theorem word_ok {used : List Str} {Q : Str → Prop} {X : HE → Prop} (hl : used.length ≤ 100) (h : ∀ z, Wd z → z ∉ used → Q z) : m__law_word used Q X := by
  unfold m__law_word
  refine draw_ok (by decide) (by decide) fun j hj => ⟨_, sig_at (by omega), fun base hb => ?_⟩
  have hj : j < 26 := by omega
  have h26 := sig26 j hj
  rw [Bool.and_eq_true] at h26
  have st : Stem 1 base := by
    rw [hb]
    exact ⟨Nat.le_refl _, SIG.getD j 0, [], rfl, of_decide_eq_true h26.1, fun d hd => by rw [List.mem_singleton.mp hd]; exact h26.2⟩
  refine draw_ok (by decide) (by decide) fun a ha => draw_ok (by decide) (by decide) fun b hb => ?_
  have ha : a < 4 := by omega
  have hb : b < 4 := by omega
  have hab : a * b ≤ 9 := by
    have : a ≤ 3 := by omega
    have : b ≤ 3 := by omega
    exact Nat.le_trans (Nat.mul_le_mul ‹a ≤ 3› ‹b ≤ 3›) (by decide)
  have hc : ((a : Int) * (b : Int)) = ((a * b : Nat) : Int) := by simp
  refine ⟨.inr ⟨by omega, by omega⟩, by rw [hc]; omega, ?_⟩
  rw [hc, Int.toNat_natCast]
  refine forD_inv (fun done s => Stem (1 + done.length) s) st (fun pre x post s nx e hs hnx => ?_) fun s hs => ?_
  · have hx := intsF_split e
    refine draw_ok (by decide) (by decide) fun i hi => ⟨_, sig_at (by omega), ?_, fun z hz => hnx z ?_⟩
    · have := hs.len
      have hb : big = 100000 := rfl
      show _ + 1 ≤ _
      omega
    · rw [hz, List.length_append]
      exact hs.app (m := 1) (fun d hd => by
        have hd : d ∈ [SIG.getD i 0] := hd
        rw [List.mem_singleton.mp hd]
        exact sig36 i (by omega)) (Nat.le_refl _)
  · rw [intsF_len] at hs
    have hs : Stem 10 s := ⟨Nat.le_trans hs.len (by omega), hs.ex⟩
    rw [Int.toNat_natCast]
    refine forD_inv (fun done w => w = cand s done.length ∧ ∀ k < done.length, cand s k ∈ used) ⟨rfl, fun k hk => absurd hk (Nat.not_lt_zero _)⟩ (fun pre x post w nx e hs2 hnx => ?_) fun w hw => ?_
    · obtain ⟨rfl, hk⟩ := hs2
      obtain ⟨rfl, hp⟩ := intsF_split e
      refine ⟨fun hc => ?_, fun hc => ?_⟩
      · refine h _ ((cand_stem hs (by omega)).isWd (by decide)) ?_
        intro hm
        rw [decide_eq_true hm] at hc
        cases hc
      · have hm : cand s pre.length ∈ used := by
          by_cases q : cand s pre.length ∈ used
          · exact q
          · rw [decide_eq_false q] at hc
            cases hc
        refine ⟨cstr_nat (Nat.lt_trans (show pre.length < 101 by omega) (by decide)), ?_, fun z hz => hnx z ⟨?_, fun k hk2 => ?_⟩⟩
        · have h1 := num_lenN (n := pre.length) (k := 3) (by decide) (by omega)
          have h2 := hs.len
          have hb : big = 100000 := rfl
          omega
        · rw [hz, List.length_append]
          rfl
        · rw [List.length_append] at hk2
          by_cases q : k = pre.length
          · rw [q]; exact hm
          · exact hk k (by simp at hk2; omega)
    · obtain ⟨rfl, hk⟩ := hw
      rw [intsF_len] at hk ⊢
      exact h _ ((cand_stem hs hl).isWd (by decide)) (cand_fresh hk)
theorem subset_ok {ws : List Str} {m : Int} {Q : List Str → Prop} {X : HE → Prop} (hn : ws.Nodup) (hl : ws.length ≤ 100) (hm : m = 0 ∨ m = 1 ∧ ws ≠ []) (h : ∀ r, r.Nodup → (∀ y ∈ r, y ∈ ws) → (m = 1 → r ≠ []) → r.length ≤ 100 → Q r) : m__law_subset ws m Q X := by
  unfold m__law_subset
  refine forD_inv (fun done s => s.Sublist done) .slnil (fun pre x post s nx e hs hnx => ?_) fun s hs => ?_
  · refine draw_ok (by decide) (by decide) fun i hi => ⟨fun _ => ⟨?_, hnx _ ?_⟩, fun _ => hnx _ ?_⟩
    · have h1 := hs.length_le
      have h2 : pre.length < ws.length := by rw [e]; simp
      have hb : big = 100000 := rfl
      omega
    · exact hs.append (List.Sublist.refl [x])
    · exact hs.trans (List.sublist_append_left _ _)
  · have h1 := hs.length_le
    have hin : ∀ y ∈ s, y ∈ ws := fun y hy => hs.subset hy
    refine ⟨fun hc => ?_, fun hc => ?_⟩
    · have hc := of_decide_eq_true hc
      rcases hm with rfl | ⟨rfl, hne⟩
      · omega
      · have hp : 0 < ws.length := pos_of_ne hne
        refine draw_ok (by omega) (Int.le_trans (show (ws.length : Int) ≤ 1000 by omega) (by decide)) fun i hi => ⟨ws[i]'(by omega), atI_nat (List.getElem?_eq_getElem (by omega)), fun c hc => h c ?_ ?_ (fun _ => by rw [hc]; simp) (by rw [hc]; show 1 ≤ 100; decide)⟩
        · rw [hc]; simp
        · rw [hc]
          intro y hy
          rw [List.mem_singleton.mp hy]
          exact List.getElem_mem _
    · refine h s (hs.nodup hn) hin (fun e1 e2 => ?_) (Nat.le_trans h1 hl)
      subst e1 e2
      have hc := of_decide_eq_false hc
      simp at hc
/-- rows of a plan that is not refused -/
structure OkRows (prs : List (Str × Int)) (srs : List SRow) : Prop where
  pw : ∀ r ∈ prs, Wd r.1 ∧ 0 ≤ r.2 ∧ r.2 ≤ 99
  pn : (prs.map (·.1)).Nodup
  sw : ∀ r ∈ srs, Wd r.1 ∧ r.2.1 ≠ [] ∧ r.2.1.Nodup ∧ (∀ y ∈ r.2.1, y ∈ prs.map (·.1)) ∧ r.2.2.Nodup ∧ (∀ y ∈ r.2.2, y ∈ prs.map (·.1))
  sn : (srs.map (·.1)).Nodup
  p12 : prs.length ≤ 12
  s16 : srs.length ≤ 16
theorem OkRows.due {prs : List (Str × Int)} {srs : List SRow} (h : OkRows prs srs) : planDue prs srs = none := planDue_none h.pw h.pn h.sw h.sn h.p12 h.s16
theorem OkRows.len {prs : List (Str × Int)} {srs : List SRow} (h : OkRows prs srs) {l : List Str} (hn : l.Nodup) (hs : ∀ y ∈ l, y ∈ prs.map (·.1)) : l.length ≤ 12 := by
  have := List.Nodup.length_le_of_subset hn hs
  rw [List.length_map] at this
  have := h.p12
  omega
theorem OkRows.B {prs : List (Str × Int)} {srs : List SRow} (h : OkRows prs srs) : RowsB prs srs := by
  have pw : ∀ y ∈ prs.map (·.1), y.length ≤ 1000 := fun y hy => by
    obtain ⟨r, hr, rfl⟩ := List.mem_map.mp hy
    exact Nat.le_trans (h.pw r hr).1.len (by decide)
  refine ⟨fun r hr => Nat.le_trans (h.pw r hr).1.len (by decide), fun r hr => ?_⟩
  obtain ⟨a0, a1, a2, a3, a4, a5⟩ := h.sw r hr
  exact ⟨Nat.le_trans a0.len (by decide), Nat.le_trans (h.len a2 a3) (by decide), Nat.le_trans (h.len a4 a5) (by decide), fun y hy => pw y (a3 y hy), fun y hy => pw y (a5 y hy)⟩
theorem any_ok {a b : Nat} {Q : List (Str × Int) × List SRow → Prop} {X : HE → Prop} (ha : a ≤ 12) (hb : b ≤ 16) (h : ∀ prs srs, OkRows prs srs → prs.length = a → (srs.length = b ∨ prs = [] ∧ srs = []) → Q (prs, srs)) : m__law_any [(a : Int), (b : Int)] 100 Q X := by
  unfold m__law_any
  refine ⟨a, atI_0, by omega, ?_⟩
  rw [Int.toNat_natCast]
  refine forD_inv (fun done (s : List (Str × Int)) => s.length = done.length ∧ (∀ r ∈ s, Wd r.1 ∧ 0 ≤ r.2 ∧ r.2 ≤ 99) ∧ (s.map (·.1)).Nodup) ⟨rfl, (fun r hr => nomatch hr), List.nodup_nil⟩ (fun pre x post s nx e ⟨h1, h2, h3⟩ hnx => ?_) fun s ⟨h1, h2, h3⟩ => ?_
  · have hp := (intsF_split e).2
    refine word_ok (by rw [List.length_map]; omega) fun z hz hzn => draw_ok (by decide) (by decide) fun i hi => ⟨lt_big (by omega), hnx _ ⟨?_, fun r hr => ?_, ?_⟩⟩
    · rw [List.length_append, List.length_append, h1]
      rfl
    · rcases List.mem_append.mp hr with q | q
      · exact h2 r q
      · rw [List.mem_singleton.mp q]
        exact ⟨hz, by show (0 : Int) ≤ i; omega, by show (i : Int) ≤ 99; omega⟩
    · rw [List.map_append]
      exact nodup_snoc h3 hzn
  · rw [intsF_len] at h1
    intro words hwd
    refine ⟨b, atI_nat (j := 1) rfl, ?_⟩
    have e01 : (if (!decide (s = [])) then 1 else 0 : Int) = if s = [] then 0 else 1 := by
      by_cases q : s = [] <;> simp [q]
    rw [e01]
    have hb2 : (b : Int) * (if s = [] then 0 else 1) = ((if s = [] then 0 else b : Nat) : Int) := by
      by_cases q : s = [] <;> simp [q]
    refine ⟨.inr ⟨by omega, by split <;> omega⟩, by rw [hb2]; split <;> omega, ?_⟩
    rw [hb2, Int.toNat_natCast]
    have wn : words.Nodup := by rw [hwd]; exact h3
    have wl : words.length = a := by rw [hwd, List.length_map, h1]
    refine forD_inv (fun done (t : List SRow) => t.length = done.length ∧ (∀ r ∈ t, Wd r.1 ∧ r.2.1 ≠ [] ∧ r.2.1.Nodup ∧ (∀ y ∈ r.2.1, y ∈ s.map (·.1)) ∧ r.2.2.Nodup ∧ (∀ y ∈ r.2.2, y ∈ s.map (·.1))) ∧ (t.map (·.1)).Nodup) ⟨rfl, (fun r hr => nomatch hr), List.nodup_nil⟩ (fun pre x post t nx e ⟨g1, g2, g3⟩ hnx => ?_) fun t ⟨g1, g2, g3⟩ => ?_
    · have hp := (intsF_split e).2
      have hne : s ≠ [] := fun q => by rw [if_pos q] at hp; exact Nat.not_lt_zero _ hp
      have wne : words ≠ [] := fun q => by
        rw [q] at wl
        have : s.length = 0 := by rw [h1]; exact wl.symm
        exact hne (List.eq_nil_of_length_eq_zero this)
      rw [if_neg hne] at hp
      refine word_ok (by rw [List.length_map]; omega) fun z hz hzn => ?_
      refine subset_ok wn (by omega) (.inr ⟨rfl, wne⟩) fun r1 a1 a2 a3 a4 => ?_
      refine subset_ok wn (by omega) (.inl rfl) fun r2 b1 b2 b3 b4 => ⟨lt_big (by omega), hnx _ ⟨?_, fun r hr => ?_, ?_⟩⟩
      · rw [List.length_append, List.length_append, g1]
        rfl
      · rcases List.mem_append.mp hr with q | q
        · exact g2 r q
        · rw [List.mem_singleton.mp q]
          exact ⟨hz, a3 rfl, a1, fun y hy => by rw [← hwd]; exact a2 y hy, b1, fun y hy => by rw [← hwd]; exact b2 y hy⟩
      · rw [List.map_append]
        exact nodup_snoc g3 hzn
    · rw [intsF_len] at g1
      refine h s t ⟨h2, h3, g2, g3, by omega, ?_⟩ h1 ?_
      · rw [g1]
        split <;> omega
      · by_cases q : s = []
        · rw [if_pos q] at g1
          exact .inr ⟨q, List.eq_nil_of_length_eq_zero g1⟩
        · rw [if_neg q] at g1
          exact .inl g1
end

/-! ## textp -/
section
/-! plain texts -/
theorem joinI {S : Type} {f : (S → Prop) → Prop} {k : S → Prop} (h : f k) : joinD f k := h
theorem tryI {hd : HE → Prop} {f : (HE → Prop) → Prop} (h : f hd) : tryD hd f := h
theorem empty_app (z : Str) : Str.empty ++ z = z := by
  have h : (Str.empty ++ z).cps.toList = z.cps.toList := by rw [cps_app]; rfl
  cases z
  rw [show (Str.empty ++ _ : Str) = ⟨(Str.empty ++ _ : Str).cps⟩ from rfl]
  rw [Array.toList_inj.mp h]
theorem ne_empty {z : Str} (h : 0 < z.length) : z ≠ ("" : Str) := fun e => by
  rw [e] at h
  exact absurd h (by decide)
theorem sum_le {l : List Str} {m : Nat} (h : ∀ y ∈ l, y.length ≤ m) : (l.map (·.length)).sum ≤ m * l.length := by
  induction l with
  | nil => exact Nat.le_refl _
  | cons y l ih =>
    have h1 := h y (List.mem_cons_self ..)
    have h2 := ih fun z hz => h z (List.mem_cons_of_mem _ hz)
    rw [List.map_cons, List.sum_cons, List.length_cons, Nat.mul_add]
    omega
end

/-! ## words -/
section
variable {P : Program} {w : World} {K : PySem.W.Frag} {mg : Str → Option Value} {base : Heap}
abbrev s_is_word : Stmt := topS 13
theorem sc_is_word : FnScope ["word", "sign"] ["word"] (defScope s_is_word) := ⟨rfl, rfl, rfl, by decide +kernel, rfl, by decide +kernel, by decide +kernel⟩
def spIsWord : Sp := fun vs H Q _ => ∃ z : Str, vs = [.str z] ∧ z.length ≤ sizeLine ∧ ∀ H', Same H H' → Q (.bl (wd z.cps.toList)) H'
theorem ok_is_word {k : Nat} (B : Bl mg) (g_LETTERS : Glo mg "LETTERS" (.str LETTERS)) (g_DIGITS : Glo mg "DIGITS" (.str DIGITS)) (g_MOST_SIGNS : Glo mg "MOST_SIGNS" (.int 12)) (F : Src K mg "is_word" s_is_word ["word"]) : Def P w K mg base CX0 (k + 1) "is_word" ["word"] spIsWord := by
  refine F.ok sc_is_word (fun vs H Q E h => ?_) (fun f cdv A outer s H vs Q E hr h => ?_)
  · obtain ⟨z, rfl, _⟩ := h
    rfl
  · obtain ⟨z, rfl, hz, q⟩ := h
    refine ⟨_, (pss_cons (ps_if (pt_not (pt_chain op_le op_le pe_int (pe_callB call_len_str (by rfl) B.len PySem.boot_len (pa_cons (pv 0) pa_nil)) (pe_glo g_MOST_SIGNS))) (pss_one (ps_ret pe_bl)) pss_nil)
 (pss_cons (ps_if (pt_cmpR op_notIn_sign (pe_ix ix_str (pv 0) pe_int (fun _ _ => rfl)) (pe_glo g_LETTERS) rfl) (pss_one (ps_ret pe_bl)) pss_nil)
 (pss_one (ps_ret (pe_callB (kcr_all (K := K) rfl) (by rfl) B.all' (by decide +kernel) (pa_cons (pe_lc (own := [("sign", 1)]) (g := gName 1) (by rfl) sc_is_word.nd (pi_str (pv 0)) (blkOk_by (N := ["word", "sign"]) (sc := defScope s_is_word) (by decide +kernel)) (fun _ _ _ _ _ => (pg_name (i := 1) sc_is_word.nd rfl (Or.inl rfl))) (fun _ _ _ _ _ => pts_nil) (fun _ _ _ _ _ => (pe_or (pe_cmpR op_in_sign (pv 1) (pe_glo g_LETTERS) rfl) (pe_one (pe_cmpR op_in_sign (pv 1) (pe_glo g_DIGITS) rfl))))) pa_nil)))))), ?_⟩
    have hl := len_cps z
    have no : ∀ b : Bool, wd z.cps.toList = b → ∀ H', Same H H' → Q (.bl b) H' := fun b e H' s => by rw [← e]; exact q H' s
    -- not 1 <= len(word) <= 12
    refine ⟨_, rfl, _, rfl, hz, _, _, rfl, rfl, _, rfl, ?_⟩
    refine ite2 (fun h1 => ?_) (fun h1 => ?_)
    · have h1 : (1 : Int) ≤ z.length := of_decide_eq_true h1
      refine ⟨_, _, rfl, rfl, _, rfl, ?_⟩
      refine ite2 (fun h2 => ?_) (fun h2 => ?_)
      · have h2 : ¬ (z.length : Int) ≤ 12 := by simpa using h2
        refine no _ ?_ _ (Same.refl H)
        have : ¬ (1 ≤ z.cps.toList.length ∧ z.cps.toList.length ≤ 12) := by omega
        unfold wd
        rw [decide_eq_false this]
        rfl
      · have h2 : (z.length : Int) ≤ 12 := by simpa using h2
        -- word[0] not in LETTERS
        have hc : z.cps.toList[0]? = some (z.cps.toList.headD 0) := by
          cases e : z.cps.toList with
          | nil => rw [e] at hl; simp at hl; omega
          | cons a r => rfl
        have hw : (decide (1 ≤ z.cps.toList.length ∧ z.cps.toList.length ≤ 12)) = true := decide_eq_true (by omega)
        refine ⟨_, rfl, z, _, _, rfl, rfl, hz, atI_nat (j := 0) hc, _, _, rfl, rfl, _, rfl, ?_⟩
        refine ite2 (fun h3 => ?_) (fun h3 => ?_)
        · refine no _ ?_ _ (Same.refl H)
          have h3 : decide (z.cps.toList.headD 0 ∈ LETTERS.cps.toList) = false := by simpa using h3
          unfold wd
          rw [h3, Bool.false_and, Bool.and_false]
        · have h3 : decide (z.cps.toList.headD 0 ∈ LETTERS.cps.toList) = true := by simpa using h3
          have hv : wd z.cps.toList = z.cps.toList.all okc := by
            unfold wd
            rw [hw, h3, Bool.true_and, Bool.true_and]
          -- all([..])
          refine ⟨_, rfl, z, rfl, fun D nD => lc_it (walk_str (z := z)) (fun i H' => Same H H' ∧ H' D = some (.lst (((z.cps.toList.take i).map okc).map V.bl))) ⟨same_upd nD, upd_same⟩ (fun _ _ _ _ => trivial) ?_ ?_⟩
          · rintro i x H' H2 hi ⟨sm, hD⟩ ⟨rfl, c, hc, rfl⟩
            have hc2 : z.cps.toList[i]? = some c := by simpa using hc
            refine ⟨rfl, yes_if ?_⟩
            have fin : ∃ acc, H2 D = some (.lst acc) ∧ acc.length < sizeLine ∧ Same H (upd H2 D (.lst (acc ++ [V.bl (okc c)]))) ∧ upd H2 D (.lst (acc ++ [V.bl (okc c)])) D = some (.lst (((z.cps.toList.take (i + 1)).map okc).map V.bl)) := by
              refine ⟨_, hD, ?_, fun b o e => ?_, ?_⟩
              · rw [List.length_map, List.length_map, List.length_take]
                exact small1000 (by omega)
              · rw [upd_ne (ne_of_none e nD)]
                exact sm b o e
              · rw [upd_same, all_take hc2, List.map_append]
                rfl
            refine ⟨_, rfl, c, _, rfl, rfl, _, rfl, ?_⟩
            refine ite2 (fun h4 => ?_) (fun h4 => ?_)
            · have e : okc c = true := by unfold okc; rw [h4, Bool.true_or]
              rw [e] at fin
              exact fin
            · have h4 : decide (c ∈ LETTERS.cps.toList) = false := by simpa using h4
              have e : okc c = decide (c ∈ DIGITS.cps.toList) := by unfold okc; rw [h4, Bool.false_or]
              rw [e] at fin
              exact ⟨_, rfl, c, _, rfl, rfl, fin⟩
          · rintro H' ⟨sm, hD⟩
            have e : z.cps.toList.take z.cps.size = z.cps.toList := List.take_of_length_le (by simp)
            rw [e] at hD
            refine ⟨D, _, rfl, SqL.of hD, ?_⟩
            rw [all_id]
            exact no _ hv _ sm
    · have h1 : ¬ (1 : Int) ≤ z.length := by simpa using h1
      refine ⟨_, rfl, ?_⟩
      refine no _ ?_ _ (Same.refl H)
      have : ¬ (1 ≤ z.cps.toList.length ∧ z.cps.toList.length ≤ 12) := by omega
      unfold wd
      rw [decide_eq_false this]
      rfl
abbrev s_check_word : Stmt := topS 14
theorem sc_check_word : FnScope ["word"] ["word"] (defScope s_check_word) := ⟨rfl, rfl, rfl, by decide +kernel, rfl, by decide +kernel, by decide +kernel⟩
def spCheckWord (C : Addr) : Sp := fun vs H Q E => ∃ z : Str, vs = [.str z] ∧ z.length ≤ sizeLine ∧ (wd z.cps.toList = true → ∀ H', Same H H' → Q (.str z) H') ∧ (wd z.cps.toList = false → Rais E H C [("word", .str z)])
theorem ok_check_word {k : Nat} {C_BadWord f_BadWord : Addr} (X_BadWord : ErrTxt P K mg false "BadWord" C_BadWord f_BadWord ["word"]) (D_is_word : Def P w K mg base CX0 k "is_word" ["word"] spIsWord) (F : Src K mg "check_word" s_check_word ["word"]) :
    Def P w K mg base (L2.CX P w) (k + 1) "check_word" ["word"] (spCheckWord C_BadWord) := by
  refine F.okX sc_check_word (fun vs H Q E h => ?_) (fun f cdv A outer s H vs Q E hr h => ?_)
  · obtain ⟨z, rfl, _⟩ := h
    rfl
  · obtain ⟨z, rfl, hz, q1, q2⟩ := h
    refine ⟨_, (pss_cons (ps_if (pt_not (pt_val (pe_def D_is_word hr pass0 (pa_cons (pv 0) pa_nil)))) (pss_one (ps_raiseE rfl X_BadWord hr (takes_of rfl rfl rfl rfl) (pa_cons (pv 0) pa_nil))) pss_nil)
 (pss_one (ps_ret (pv 0)))), ?_⟩
    refine ⟨_, rfl, z, rfl, hz, fun H' sm => ⟨_, rfl, ?_⟩⟩
    refine ite2 (fun h1 => ?_) (fun h1 => ?_)
    · have h1 : wd z.cps.toList = false := by simpa using h1
      exact ⟨_, rfl, rfl, (fun e => by cases e), fun d hd => (q2 h1).go sm hd⟩
    · have h1 : wd z.cps.toList = true := by simpa using h1
      exact ⟨_, rfl, q1 h1 H' sm⟩
end

/-! ## names -/
section
variable {P : Program} {w : World} {K : PySem.W.Frag} {mg : Str → Option Value} {base : Heap}
abbrev s_check_number : Stmt := topS 15
theorem sc_check_number : FnScope ["number", "least", "most"] ["number", "least", "most"] (defScope s_check_number) := ⟨rfl, rfl, rfl, by decide +kernel, rfl, by decide +kernel, by decide +kernel⟩
def spCheckNumber (C : Addr) : Sp := fun vs H Q E => ∃ n lo hi : Int, vs = [.int n, .int lo, .int hi] ∧ (lo ≤ n ∧ n ≤ hi → Q (.int n) H) ∧ (¬ (lo ≤ n ∧ n ≤ hi) → Rais E H C [("number", .int n)])
theorem ok_check_number {k : Nat} {C_BadNumber f_BadNumber : Addr} (X_BadNumber : ErrTxt P K mg false "BadNumber" C_BadNumber f_BadNumber ["number"]) (F : Src K mg "check_number" s_check_number ["number", "least", "most"]) :
    Def P w K mg base (L2.CX P w) (k + 1) "check_number" ["number", "least", "most"] (spCheckNumber C_BadNumber) := by
  refine F.okX sc_check_number (fun vs H Q E h => ?_) (fun f cdv A outer s H vs Q E hr h => ?_)
  · obtain ⟨n, lo, hi, rfl, _⟩ := h
    rfl
  · obtain ⟨n, lo, hi, rfl, q1, q2⟩ := h
    refine ⟨_, (pss_cons (ps_if (PW.pt (pw_or (pt_cmpR op_lt (pv 0) (pv 1) (nomark _)) (pw_or1 (pt_cmpR op_gt (pv 0) (pv 2) (nomark _))))) (pss_one (ps_raiseE rfl X_BadNumber hr (takes_of rfl rfl rfl rfl) (pa_cons (pv 0) pa_nil))) pss_nil)
 (pss_one (ps_ret (pv 0)))), ?_⟩
    refine ⟨_, rfl, _, rfl, _, _, rfl, rfl, _, rfl, ?_⟩
    refine ite2 (fun h1 => ?_) (fun h1 => ?_)
    · have h1 : n < lo := of_decide_eq_true h1
      exact iteT ⟨_, rfl, rfl, (fun e => by cases e), fun d hd => (q2 (by omega)).go (Same.refl H) hd⟩
    · have h1 : ¬ n < lo := by simpa using h1
      refine ⟨_, rfl, _, rfl, _, _, rfl, rfl, _, rfl, ?_⟩
      refine ite2 (fun h2 => ?_) (fun h2 => ?_)
      · have h2 : hi < n := of_decide_eq_true h2
        exact ⟨_, rfl, rfl, (fun e => by cases e), fun d hd => (q2 (by omega)).go (Same.refl H) hd⟩
      · have h2 : ¬ hi < n := by simpa using h2
        exact ⟨_, rfl, q1 (by omega)⟩
abbrev s_check_names : Stmt := topS 16
theorem sc_check_names : FnScope ["names", "known", "seen", "name"] ["names", "known"] (defScope s_check_names) := ⟨rfl, rfl, rfl, by decide +kernel, rfl, by decide +kernel, by decide +kernel⟩
def spCheckNames (K : PySem.W.Frag) (CU CD : Addr) : Sp := fun vs H Q E => ∃ (a c : Addr) (ws ks : List Str), vs = [.ref a, .ref c] ∧ SqL K H a (ws.map V.str) ∧ Sq K H c (ks.map V.str) ∧ ws.length ≤ 1000 ∧
  (chk ks [] ws = none → ∀ (p : Addr) (H' : Hp), H p = none → Same H H' → H' p = some (.tup (ws.map V.str)) → Q (.ref p) H') ∧
  (∀ n, chk ks [] ws = some (true, n) → Rais E H CU [("name", .str n)]) ∧ (∀ n, chk ks [] ws = some (false, n) → Rais E H CD [("name", .str n)])
theorem ok_check_names {k : Nat} {C_UnknownName f_UnknownName C_DoubleName f_DoubleName : Addr} (B : Bl mg) (X_UnknownName : ErrTxt P K mg false "UnknownName" C_UnknownName f_UnknownName ["name"]) (X_DoubleName : ErrTxt P K mg false "DoubleName" C_DoubleName f_DoubleName ["name"])
    (F : Src K mg "check_names" s_check_names ["names", "known"]) : Def P w K mg base (L2.CX P w) (k + 1) "check_names" ["names", "known"] (spCheckNames K C_UnknownName C_DoubleName) := by
  refine F.okX sc_check_names (fun vs H Q E h => ?_) (fun f cdv A outer s H vs Q E hr h => ?_)
  · obtain ⟨a, c, ws, ks, rfl, _⟩ := h
    rfl
  · obtain ⟨a, c, ws, ks, rfl, ha, hc, hlen, q1, q2, q3⟩ := h
    refine ⟨_, (pss_cons (ps_asg (pe_lst pa_nil) (pg_name (i := 2) sc_check_names.nd rfl (Or.inl rfl)))
 (pss_cons (ps_for (passes_of rfl) rfl (kpi_list (K := K) (pv 0)) (pg_name (i := 3) sc_check_names.nd rfl (Or.inl rfl)) (pss_cons (ps_if (pt_cmpR (kop_notIn (K := K)) (pv 3) (pv 1) rfl) (pss_one (ps_raiseE rfl X_UnknownName hr (takes_of rfl rfl rfl rfl) (pa_cons (pv 3) pa_nil))) pss_nil)
 (pss_cons (ps_if (pt_cmpR (kop_in (K := K)) (pv 3) (pv 2) rfl) (pss_one (ps_raiseE rfl X_DoubleName hr (takes_of rfl rfl rfl rfl) (pa_cons (pv 3) pa_nil))) pss_nil)
 (pss_one (ps_expr (pe_bm PySem.F.plainAttrs_list PySem.F.slot_list_append PySem.F.type_list_append mt_append (pv 2) (pa_cons (pv 3) pa_nil)))))))
 (pss_one (ps_ret (pe_callTy (kcall_tuple (K := K)) (by rfl) B.tuple' (by decide +kernel) (pa_cons (pv 2) pa_nil)))))), ?_⟩
    refine ⟨Nat.zero_le _, fun D nD => ?_⟩
    have s1 : Same H (upd H D (.lst [])) := same_upd nD
    refine ⟨_, rfl, a, rfl, ⟨_, s1.seq ha⟩, for_list (K := K) (a := a) (xs := ws.map V.str) (fun i σ H' => ∃ y, σ = [some (.ref a), some (.ref c), some (.ref D), y] ∧ Same H H' ∧ H' D = some (.lst ((ws.take i).map V.str)) ∧ chk ks [] ws = chk ks (ws.take i) (ws.drop i))
      ⟨none, rfl, s1, upd_same, rfl⟩ (fun i σ H' _ h' => by obtain ⟨_, _, sm, _⟩ := h'; exact sm.seq ha) ?_ ?_⟩
    · rintro i x σ H' hi ⟨y, rfl, sm, hD, hk⟩
      obtain ⟨n, hn, rfl⟩ := map_get hi
      have hdr : ws.drop i = n :: ws.drop (i + 1) := List.drop_eq_getElem?_toList_append.trans (by rw [hn]; rfl)
      rw [hdr, chk_cons] at hk
      refine ⟨_, rfl, _, rfl, c, _, rfl, sm.sq hc, rfl, flat_strs _, _, rfl, ?_⟩
      rw [inV_strs]
      refine ite2 (fun h1 => ?_) (fun h1 => ?_)
      · have h1 : n ∉ ks := by simpa using h1
        rw [if_neg h1] at hk
        exact ⟨_, rfl, rfl, (fun e => by cases e), fun d hd => (q2 n hk).go sm hd⟩
      · have h1 : n ∈ ks := by simpa using h1
        rw [if_pos h1] at hk
        refine ⟨_, rfl, _, rfl, D, _, rfl, .inl (SqL.of hD), rfl, flat_strs _, _, rfl, ?_⟩
        rw [inV_strs]
        refine ite2 (fun h2 => ?_) (fun h2 => ?_)
        · have h2 : n ∈ ws.take i := by simpa using h2
          rw [if_pos h2] at hk
          exact ⟨_, rfl, rfl, (fun e => by cases e), fun d hd => (q3 n hk).go sm hd⟩
        · have h2 : n ∉ ws.take i := by simpa using h2
          rw [if_neg h2] at hk
          refine ⟨_, rfl, .inl ⟨rfl, _, SqL.of hD⟩, _, rfl, D, _, _, rfl, rfl, hD, ?_, ?_⟩
          · rw [List.length_map, List.length_take]
            exact small1000 (by omega)
          · refine ⟨_, rfl, fun b o e => ?_, ?_, ?_⟩
            · rw [upd_ne (ne_of_none e nD)]
              exact sm b o e
            · rw [upd_same, take_more hn, List.map_append]
              rfl
            · rw [take_more hn]
              exact hk
    · rintro σ H' ⟨y, rfl, sm, hD, hk⟩
      rw [List.length_map, List.take_length] at hD
      rw [List.length_map, List.drop_length] at hk
      exact ⟨_, rfl, D, _, rfl, .inl ⟨SqL.of hD, fun l hl => q1 hk l _ (sm.free hl) (sm.trans (same_upd hl)) upd_same⟩⟩
end

/-! ## gplan -/
section
variable {P : Program} {w : World} {K : PySem.W.Frag} {mg : Str → Option Value} {base : Heap}
def ordRow (pl : List Str) (r : SRow) : SRow := (r.1, inOrd pl r.2.1, inOrd pl r.2.2)
/-- errors of plans -/
def erOf (cs : ECs) : PErr → Er
  | .tooMany k l => ⟨cs.tooMany, [("limit", iz zI l), ("kind", iz zS k)]⟩
  | .badWord w => ⟨cs.badWord, [("word", iz zS w)]⟩
  | .double n => ⟨cs.double, [("name", iz zS n)]⟩
  | .badNumber n => ⟨cs.badNumber, [("number", iz zI n)]⟩
  | .empty n => ⟨cs.empty, [("name", iz zS n)]⟩
  | .unknown n => ⟨cs.unknown, [("name", iz zS n)]⟩
/-! words, numbers, names -/
def preIsWord : Pre := fun ps out err => ∃ z, ps = [iz zS z] ∧ z.length ≤ 1000 ∧ out = (· = iz zB (wd z.cps.toList)) ∧ err = noErr
theorem len_line {z : Str} (h : z.length ≤ 1000) : z.length ≤ sizeLine := Nat.le_of_lt (small1000 h)
theorem isWordG {k : Nat} {ps : List Str} (D : Def P w K mg base CX0 k "is_word" ps spIsWord) : Def P w K mg base CX0 k "is_word" ps (spA preIsWord) := D.imp fun vs H Q E ⟨F, qs, out, err, fh, hps, ⟨z, e1, hz, e2, e3⟩, post, _⟩ => by
  subst e1 e2 e3
  cases hps with
  | cons h1 hp => cases hp with
    | nil =>
      obtain ⟨h1, _⟩ := h1
      subst h1
      exact ⟨z, rfl, len_line hz, fun H' hh => post.flat fh rfl (fun _ => rfl) hh⟩
def preCheckWord (cs : ECs) : Pre := fun ps out err => ∃ z, ps = [iz zS z] ∧ z.length ≤ 1000 ∧ out = (fun p => wd z.cps.toList = true ∧ p = iz zS z) ∧ err = fun e => wd z.cps.toList = false ∧ e = erOf cs (.badWord z)
theorem checkWordG {k : Nat} {cs : ECs} {ps : List Str} (D : Def P w K mg base (L2.CX P w) k "check_word" ps (spCheckWord cs.badWord)) : Def P w K mg base (L2.CX P w) k "check_word" ps (spA (preCheckWord cs)) := D.imp fun vs H Q E ⟨F, qs, out, err, fh, hps, ⟨z, e1, hz, e2, e3⟩, post, pers⟩ => by
  subst e1 e2 e3
  cases hps with
  | cons h1 hp => cases hp with
    | nil =>
      obtain ⟨h1, ha⟩ := h1
      subst h1
      exact ⟨z, rfl, len_line hz, fun h H' hh => post.flat fh ⟨h, rfl⟩ (fun _ => ⟨rfl, ha⟩) hh, fun h => pers.rais fh ⟨h, rfl⟩ (fs1S ha)⟩
def preCheckNumber (cs : ECs) : Pre := fun ps out err => ∃ n lo hi : Int, ps = [iz zI n, iz zI lo, iz zI hi] ∧ out = (fun p => (lo ≤ n ∧ n ≤ hi) ∧ p = iz zI n) ∧ err = fun e => ¬ (lo ≤ n ∧ n ≤ hi) ∧ e = erOf cs (.badNumber n)
theorem checkNumberG {k : Nat} {cs : ECs} {ps : List Str} (D : Def P w K mg base (L2.CX P w) k "check_number" ps (spCheckNumber cs.badNumber)) : Def P w K mg base (L2.CX P w) k "check_number" ps (spA (preCheckNumber cs)) := D.imp fun vs H Q E ⟨F, qs, out, err, fh, hps, ⟨n, lo, hi, e1, e2, e3⟩, post, pers⟩ => by
  subst e1 e2 e3
  cases hps with
  | cons h1 hp => cases hp with
    | cons h2 hp => cases hp with
      | cons h3 hp => cases hp with
        | nil =>
          have h1 : _ = V.int n := h1
          have h2 : _ = V.int lo := h2
          have h3 : _ = V.int hi := h3
          subst h1 h2 h3
          exact ⟨n, lo, hi, rfl, fun h => post.flat fh ⟨h, rfl⟩ (fun _ => rfl) (Same.refl H), fun h => pers.rais fh ⟨h, rfl⟩ fs1I⟩
def preCheckNames (cs : ECs) : Pre := fun ps out err => ∃ ws ks : List Str, (ps = [iz (zL zS) ws, iz (zT zS) ks] ∨ ps = [iz (zL zS) ws, iz (zL zS) ks]) ∧ ws.length ≤ 1000 ∧ out = (fun p => chk ks [] ws = none ∧ p = iz (zT zS) ws) ∧ err = fun e => ∃ x, chk ks [] ws = some x ∧ e = erOf cs (nameErr x)
theorem checkNamesG {k : Nat} {cs : ECs} {ps : List Str} (D : Def P w K mg base (L2.CX P w) k "check_names" ps (spCheckNames K cs.unknown cs.double)) : Def P w K mg base (L2.CX P w) k "check_names" ps (spA (preCheckNames cs)) := D.imp fun vs H Q E ⟨F, qs, out, err, fh, hps, ⟨ws, ks, e1, hl, e2, e3⟩, post, pers⟩ => by
  subst e2 e3
  have key : ∃ a c, vs = [.ref a, .ref c] ∧ H a = some (.lst (ws.map V.str)) ∧ (∀ y ∈ ws, Asc y) ∧ (H c = some (.tup (ks.map V.str)) ∨ H c = some (.lst (ks.map V.str))) := by
    rcases e1 with e1 | e1
    · subst e1
      cases hps with
      | cons h1 hp => cases hp with
        | cons h2 hp => cases hp with
          | nil =>
            obtain ⟨a, us, rfl, h1, h3⟩ := h1
            obtain ⟨c, us', rfl, h2, h4⟩ := h2
            obtain ⟨rfl, h5⟩ := pvs_S h3
            obtain ⟨rfl, _⟩ := pvs_S h4
            exact ⟨a, c, rfl, fh _ _ h1, h5, .inl (fh _ _ h2)⟩
    · subst e1
      cases hps with
      | cons h1 hp => cases hp with
        | cons h2 hp => cases hp with
          | nil =>
            obtain ⟨a, us, rfl, h1, h3⟩ := h1
            obtain ⟨c, us', rfl, h2, h4⟩ := h2
            obtain ⟨rfl, h5⟩ := pvs_S h3
            obtain ⟨rfl, _⟩ := pvs_S h4
            exact ⟨a, c, rfl, fh _ _ h1, h5, .inr (fh _ _ h2)⟩
  obtain ⟨a, c, rfl, ha, hw, hc⟩ := key
  refine ⟨a, c, ws, ks, rfl, SqL.of ha, ?_, hl, fun h p H' np hh hp => ?_, fun n h => ?_, fun n h => ?_⟩
  · rcases hc with hc | hc
    · exact .inr (SqT.of hc)
    · exact .inl (SqL.of hc)
  · exact post.new fh ⟨h, rfl⟩ hh ⟨p, _, rfl, newF_at np hp, strs_pvs hw⟩
  · exact pers.rais fh ⟨_, h, rfl⟩ (fs1S (hw n (chk_mem h)))
  · exact pers.rais fh ⟨_, h, rfl⟩ (fs1S (hw n (chk_mem h)))
abbrev s_in_order : Stmt := topS 21
theorem sc_in_order : FnScope ["names", "places", "known", "place"] ["names", "places"] (defScope s_in_order) := ⟨rfl, rfl, rfl, by decide +kernel, rfl, by decide +kernel, by decide +kernel⟩
def preInOrder (cs : ECs) : Pre := fun ps out err => ∃ ws ks : List Str, ps = [iz (zL zS) ws, iz (zT zS) ks] ∧ ws.length ≤ 1000 ∧ ks.length ≤ 1000 ∧ out = (fun p => chk ks [] ws = none ∧ p = iz (zT zS) (inOrd ks ws)) ∧ err = fun e => ∃ x, chk ks [] ws = some x ∧ e = erOf cs (nameErr x)
theorem ok_in_orderG {k : Nat} {cs : ECs} (B : Bl mg) (D_check_names : Def P w K mg base (L2.CX P w) k "check_names" ["names", "known"] (spA (preCheckNames cs)))
    (F : Src K mg "in_order" s_in_order ["names", "places"]) : Def P w K mg base (L2.CX P w) (k + 1) "in_order" ["names", "places"] (spA (preInOrder cs)) := by
  refine F.okAX sc_in_order (fun qs out err ⟨_, _, h, _⟩ => by rw [h]; rfl) (fun f cdv A outer s H E qs out err hr hpre => ?_)
  obtain ⟨ws, ks, rfl, hl1, hl2, rfl, rfl⟩ := hpre
  refine ⟨_, (pss_cons (ps_asg (pe_def D_check_names hr (passes_call (takes_of rfl rfl rfl rfl) (fun _ _ _ _ h => h)) (pa_cons (pv 0) (pa_cons (pv 1) pa_nil))) (pg_name (i := 2) sc_in_order.nd rfl (Or.inr rfl)))
 (pss_one (ps_ret (pe_callTy (kcall_tuple (K := K)) (by rfl) B.tuple' (by decide +kernel) (pa_cons (pe_lc (own := [("place", 3)]) (g := gName 3) (by rfl) sc_in_order.nd (kpi_tup (K := K) (pv 1)) (blkOk_by (N := ["names", "places", "known", "place"]) (sc := defScope s_in_order) (by decide +kernel)) (fun _ _ _ _ _ => (pg_name (i := 3) sc_in_order.nd rfl (Or.inl rfl))) (fun _ _ _ _ _ => pts_one (pt_cmpR (kop_in (K := K)) (pv 3) (pv 2) rfl)) (fun _ _ _ _ _ => (pv 3))) pa_nil))))), fun fr Q hret hrse => ?_⟩
  ac_rfl
  refine sps_A ⟨ws, ks, .inl rfl, hl1, rfl, rfl⟩ (fun p ⟨hc, hp⟩ => ?_) (fun e he => kr_E hrse he)
  subst hp
  ac_rfl
  refine we_lc (r := zS) (s := zS) (xs := ks) (pr := fun x => decide (x ∈ ws)) (f := fun x => x) ?_ hl2 (fun x => tg_name) (fun x hx c => ?_) (fun x hx hp c => ?_) ?_
  · ac_rfl
  · ac_rfl
  · ac_rfl
  · ac_rfl
    refine hret _ ⟨hc, ?_⟩ _
    rw [List.map_id']
    rfl
end

/-! ## gplan2 -/
section
variable {P : Program} {w : World} {K : PySem.W.Frag} {mg : Str → Option Value} {base : Heap}
theorem kvs_keys {F : Hp} {α : Type} {r : Rep α} {kvs : List (L2.Key × V)} {rows : List (Str × α)} (h : KVs r F kvs rows) : (kvs.map fun kv => kV kv.1) = (rows.map (·.1)).map V.str := by
  induction h with
  | nil => rfl
  | cons a _ ih =>
    rw [List.map_cons, List.map_cons, List.map_cons, ih, a.1]
    rfl
theorem cb_listD {fr : L2.Fr} {Θ : List Cel} {Kk : Vp → List Cel → Prop} {α : Type} {r : Rep α} {rows : List (Str × α)} {p : Vp} (h : DicP fr Θ p r rows) (ha : ∀ x ∈ rows, Asc x.1) (k : Kk (iz (zL zS) (rows.map (·.1))) Θ) : Cbs fr Θ rListD [p] Kk := fun F H vs ok hps Q q => by
  cases hps with
  | cons h1 hp => cases hp with
    | nil =>
      obtain ⟨a, kvs, rfl, h2, h3⟩ := h F H _ ok h1
      refine ⟨a, kvs, rfl, h2, fun l nl => ?_⟩
      rw [kvs_keys h3]
      exact q.new k ok nl ⟨l, _, rfl, upd_same, strs_pvs fun y hy => by
        obtain ⟨x, hx, rfl⟩ := List.mem_map.mp hy
        exact ha x hx⟩
def tkR (ss : List SRow) : List (Str × List Str) := ss.map fun s => (s.1, s.2.1)
def gvR (ss : List SRow) : List (Str × List Str) := ss.map fun s => (s.1, s.2.2)
def planFs (pl : List Str) (bg : List Int) (td tg : Addr) : List (Str × Vp) := [("places", iz (zT zS) pl), ("begin", iz (zT zI) bg), ("taken", zAt td), ("given", zAt tg)]
/-- the cells of a plan that is being built -/
def halfC (x C dx td tg : Addr) (pl : List Str) (bg : List Int) (ss : List SRow) : List Cel := [cI x C dx (planFs pl bg td tg), cD td (zT zS) (tkR ss), cD tg (zT zS) (gvR ss)]
theorem tkR_names (ss : List SRow) : (tkR ss).map (·.1) = ss.map (·.1) := by unfold tkR; rw [List.map_map]; rfl
theorem gvR_names (ss : List SRow) : (gvR ss).map (·.1) = ss.map (·.1) := by unfold gvR; rw [List.map_map]; rfl
theorem some_iff {α : Type} {rows : List (Str × α)} {n : Str} : (getR rows n).isSome = decide (n ∈ rows.map (·.1)) := by
  cases e : getR rows n with
  | none => rw [decide_eq_false (getR_none.mp e)]; rfl
  | some x => rw [decide_eq_true (List.mem_map.mpr ⟨_, getR_mem e, rfl⟩)]; rfl
theorem putR_new {α : Type} {rows : List (Str × α)} {n : Str} {x : α} (h : n ∉ rows.map (·.1)) : putR rows n x = rows ++ [(n, x)] := if_neg h
abbrev s_Plan_put_step : Stmt := inClass (topS 22) 1
theorem sc_Plan_put_step : FnScope ["self", "word", "takes", "gives", "taken"] ["self", "word", "takes", "gives"] (defScope s_Plan_put_step) := ⟨rfl, rfl, rfl, by decide +kernel, rfl, by decide +kernel, by decide +kernel⟩
def prePut (cs : ECs) (C : Addr) : PreC := fun ps Θ out err => ∃ x dx td tg pl bg ss r, ps = [zAt x, iz zS r.1, iz (zL zS) r.2.1, iz (zL zS) r.2.2] ∧ Θ = halfC x C dx td tg pl bg ss ∧ r.1.length ≤ 1000 ∧ r.2.1.length ≤ 1000 ∧ r.2.2.length ≤ 1000 ∧ pl.length ≤ 12 ∧ ss.length ≤ 16 ∧
  out = (fun p Θ' => stepDue pl (ss.map (·.1)) r = none ∧ p = zNon ∧ Θ' = halfC x C dx td tg pl bg (ss ++ [ordRow pl r])) ∧ err = fun e Θ' => ∃ y, stepDue pl (ss.map (·.1)) r = some y ∧ e = erOf cs y ∧ Θ' = Θ
theorem ok_put_stepG {k : Nat} {cs : ECs} {C f_DoubleName f_EmptyStep : Addr} (B : Bl mg) (T_Plan : PlanC K mg C) (X_DoubleName : ErrTxt P K mg false "DoubleName" cs.double f_DoubleName ["name"]) (X_EmptyStep : ErrTxt P K mg false "EmptyStep" cs.empty f_EmptyStep ["name"])
    (D_check_word : Def P w K mg base (L2.CX P w) k "check_word" ["word"] (spA (preCheckWord cs))) (D_in_order : Def P w K mg base (L2.CX P w) k "in_order" ["names", "places"] (spA (preInOrder cs)))
    (F : SrcM K C "put_step" "Plan.put_step" s_Plan_put_step ["self", "word", "takes", "gives"]) : DefM P w K mg base (L2.CX P w) (k + 1) C "put_step" ["self", "word", "takes", "gives"] (spC (prePut cs C)) := by
  refine F.okCX sc_Plan_put_step (fun qs Θ out err ⟨x, dx, td, tg, pl, bg, ss, r, h1, h2, _⟩ => ⟨by rw [h1]; rfl, fun c hc => by
    subst h2
    simp only [halfC, List.mem_cons, List.not_mem_nil, or_false] at hc
    rcases hc with rfl | rfl | rfl <;> rfl⟩) (fun f cdv A outer s H E qs Θ out err hr hpre => ?_)
  obtain ⟨x, dx, td, tg, pl, bg, ss, r, rfl, rfl, l1, l2, l3, lp, ls, rfl, rfl⟩ := hpre
  refine ⟨_, (pss_cons (ps_expr (pe_def D_check_word hr (passes_call (takes_of rfl rfl rfl rfl) (fun _ _ _ _ h => h)) (pa_cons (pv 1) pa_nil)))
 (pss_cons (ps_if (pt_cmp (pc_din (hu_of hr) (pv 1) (kpe_fld (K := K) (pv 0)))) (pss_one (ps_raiseE rfl X_DoubleName hr (takes_of rfl rfl rfl rfl) (pa_cons (pv 1) pa_nil))) pss_nil)
 (pss_cons (ps_if (pt_cmpR op_eq (pe_callB (kcall_len (K := K)) (by rfl) B.len PySem.boot_len (pa_cons (pv 2) pa_nil)) pe_int (nomark _)) (pss_one (ps_raiseE rfl X_EmptyStep hr (takes_of rfl rfl rfl rfl) (pa_cons (pv 1) pa_nil))) pss_nil)
 (pss_cons (ps_asg (pe_def D_in_order hr (passes_call (takes_of rfl rfl rfl rfl) (fun _ _ _ _ h => h)) (pa_cons (pv 2) (pa_cons (kpe_fld (K := K) (pv 0)) pa_nil))) (pg_name (i := 4) sc_Plan_put_step.nd rfl (Or.inl rfl)))
 (pss_cons (ps_dput (hu_of hr) (kpe_fld (K := K) (pv 0)) (pv 1) (pe_def D_in_order hr (passes_call (takes_of rfl rfl rfl rfl) (fun _ _ _ _ h => h)) (pa_cons (pv 3) (pa_cons (kpe_fld (K := K) (pv 0)) pa_nil))) rfl)
 (pss_one (ps_dput (hu_of hr) (kpe_fld (K := K) (pv 0)) (pv 1) (pv 4) rfl))))))), fun fr Q hret hrse => ?_⟩
  have er : ∀ {Γ : Gam} {y : PErr}, stepDue pl (ss.map (·.1)) r = some y → Kr fr Γ (halfC x C dx td tg pl bg ss) (fun cls d _ H => E cls d H) (erOf cs y) := fun {Γ y} h => kr_C hrse ⟨y, h, rfl, rfl⟩ rfl (Θx := []) (by rw [List.append_nil])
  -- check_word(word)
  bv_omega
  refine kn_drop ?_
  ac_rfl
  refine sps_A ⟨r.1, rfl, l1, rfl, rfl⟩ (fun p ⟨hw, hp⟩ => ?_) (fun e ⟨hw, he⟩ => ?_)
  rotate_left
  · subst he
    refine er ?_
    unfold stepDue
    rw [if_neg (by rw [hw]; exact Bool.false_ne_true)]
  -- if word in self.taken
  ac_rfl
  refine ⟨_, fld_C (.head _) T_Plan.cl T_Plan.nT rfl, _, _, _, _, dic_C (.tail _ (.head _)), rfl, _, rfl, ?_⟩
  rw [some_iff, tkR_names]
  refine ⟨fun h => ?_, fun h => ?_⟩
  · have h := of_decide_eq_true h
    ac_rfl
    refine ⟨rfl, (fun h => nomatch h), er (y := .double r.1) ?_⟩
    unfold stepDue
    rw [if_pos hw, if_pos h]
  have h1 := of_decide_eq_false h
  -- if len(takes) == 0
  ac_rfl
  refine ⟨fun h => ?_, fun h => ?_⟩
  · have h := of_decide_eq_true h
    ac_rfl
    refine ⟨rfl, (fun h => nomatch h), er (y := .empty r.1) ?_⟩
    unfold stepDue
    rw [if_pos hw, if_neg h1, if_pos (List.length_eq_zero_iff.mp (by omega))]
  have h2 : r.2.1 ≠ [] := fun q => of_decide_eq_false h (by rw [q]; rfl)
  -- taken
  ac_rfl
  refine ⟨_, fld_C (.head _) T_Plan.cl T_Plan.nP rfl, ?_⟩
  ac_rfl
  refine sps_A ⟨_, _, rfl, l2, by omega, rfl, rfl⟩ (fun p ⟨hc, hp⟩ => ?_) (fun e ⟨y, hy, he⟩ => ?_)
  rotate_left
  · subst he
    refine er ?_
    unfold stepDue
    rw [if_pos hw, if_neg h1, if_neg h2, hy]
  subst hp
  -- given
  ac_rfl
  refine kn_dput ?_
  ac_rfl
  refine ⟨_, fld_C (.head _) T_Plan.cl T_Plan.nP rfl, ?_⟩
  ac_rfl
  refine sps_A ⟨_, _, rfl, l3, by omega, rfl, rfl⟩ (fun p ⟨hc2, hp⟩ => ?_) (fun e ⟨y, hy, he⟩ => ?_)
  rotate_left
  · subst he
    refine er ?_
    unfold stepDue
    rw [if_pos hw, if_neg h1, if_neg h2, hc, hy]
    rfl
  subst hp
  have hdue : stepDue pl (ss.map (·.1)) r = none := by
    unfold stepDue
    rw [if_pos hw, if_neg h1, if_neg h2, hc, hc2]
    rfl
  ac_rfl
  refine ⟨_, fld_C (.head _) T_Plan.cl T_Plan.nG rfl, ?_⟩
  ac_rfl
  refine ⟨_, _, _, _, _, tg, 2, rfl, rfl, rfl, rfl, by unfold gvR; rw [List.length_map]; omega, ?_⟩
  subst_vars
  refine kn_dput ?_
  ac_rfl
  refine ⟨_, fld_C (.head _) T_Plan.cl T_Plan.nT rfl, ?_⟩
  ac_rfl
  refine ⟨_, _, _, _, _, td, 1, rfl, rfl, rfl, rfl, by unfold tkR; rw [List.length_map]; omega, ?_⟩
  rw [putR_new (by rw [gvR_names]; exact h1), putR_new (by rw [tkR_names]; exact h1)]
  have e1 : tkR ss ++ [(r.1, inOrd pl r.2.1)] = tkR (ss ++ [ordRow pl r]) := by unfold tkR; rw [List.map_append]; rfl
  have e2 : gvR ss ++ [(r.1, inOrd pl r.2.2)] = gvR (ss ++ [ordRow pl r]) := by unfold gvR; rw [List.map_append]; rfl
  rw [e1, e2]
  intro σ F' H' ok env
  exact hret zNon _ ⟨hdue, rfl, rfl⟩ rfl _ [] (by rw [List.append_nil]; exact .refl _) .non F' H' ok rfl
end

/-! ## gplan3 -/
section
variable {P : Program} {w : World} {K : PySem.W.Frag} {mg : Str → Option Value} {base : Heap}
theorem fsok_none {F : Hp} {m : Str} : ∀ {fs : List (Str × Vp)} {us : List (Str × V)}, FsOk F fs us → fs.lookup m = none → us.lookup m = none
  | _, _, .nil, _ => rfl
  | (f1, f2) :: fs, (u1, u2) :: us, .cons ⟨h1, _⟩ r, h => by
    have h1 : f1 = u1 := h1
    subst h1
    rw [List.lookup_cons] at h ⊢
    cases e : (m == f1) with
    | true => rw [e] at h; cases h
    | false => rw [e] at h; exact fsok_none r h
theorem fsok_cons {F : Hp} {f : Str} {p : Vp} {fs : List (Str × Vp)} {us : List (Str × V)} (h : FsOk F ((f, p) :: fs) us) : ∃ w us', us = (f, w) :: us' ∧ p.p F w ∧ FsOk F fs us' := by
  cases us with
  | nil => cases h
  | cons u us =>
    cases h with
    | cons a b =>
      obtain ⟨u1, u2⟩ := u
      obtain ⟨a1, a2⟩ := a
      have a1 : f = u1 := a1
      subst a1
      exact ⟨u2, us, rfl, a2, b⟩
theorem ins_C {fr : L2.Fr} {Θ : List Cel} {a C dx : Addr} {fs : List (Str × Vp)} {m : Str} (hc : cI a C dx fs ∈ Θ) (hm : fs.lookup m = none) : InsP fr Θ (zAt a) C m := fun F H v ok hv => by
  obtain ⟨_, ⟨o, h2, us, rfl, h6⟩, _⟩ := ok.ce _ hc
  exact ⟨a, dx, us, hv, h2, fsok_none h6 hm⟩
def PRowsOk (prs : List (Str × Int)) : Prop := ∀ r ∈ prs, r.1.length ≤ 1000
def SRowsOk (srs : List SRow) : Prop := ∀ r ∈ srs, r.1.length ≤ 1000 ∧ r.2.1.length ≤ 1000 ∧ r.2.2.length ≤ 1000
abbrev zPR : Rep (List (Str × Int)) := zL (z2 zS zI)
abbrev zSR : Rep (List SRow) := zL (z3 zS (zL zS) (zL zS))
theorem placesDue_ok : ∀ {prs : List (Str × Int)} {seen : List Str}, placesDue seen prs = none → seen.Nodup → (∀ r ∈ prs, Wd r.1 ∧ 0 ≤ r.2 ∧ r.2 ≤ 99) ∧ (seen ++ prs.map (·.1)).Nodup
  | [], seen, _, hs => ⟨(fun r hr => by cases hr), by simpa using hs⟩
  | (w, n) :: r, seen, h, hs => by
    rw [placesDue_cons] at h
    by_cases h1 : wd w.cps.toList = true
    · rw [if_pos h1] at h
      by_cases h2 : w ∈ seen
      · rw [if_pos h2] at h; cases h
      · rw [if_neg h2] at h
        by_cases h3 : 0 ≤ n ∧ n ≤ 99
        · rw [if_pos h3] at h
          obtain ⟨a, b⟩ := placesDue_ok h (nodup_snoc hs h2)
          refine ⟨fun x hx => ?_, ?_⟩
          · rcases List.mem_cons.mp hx with rfl | hx
            · exact ⟨h1, h3⟩
            · exact a x hx
          · rw [List.map_cons]
            rw [List.append_assoc] at b
            exact b
        · rw [if_neg h3] at h; cases h
    · rw [if_neg h1] at h; cases h
theorem stepDue_ok {pl seen : List Str} {s : SRow} (h : stepDue pl seen s = none) : Wd s.1 ∧ s.1 ∉ seen ∧ s.2.1 ≠ [] ∧ chk pl [] s.2.1 = none ∧ chk pl [] s.2.2 = none := by
  unfold stepDue at h
  by_cases h1 : wd s.1.cps.toList = true
  · rw [if_pos h1] at h
    by_cases h2 : s.1 ∈ seen
    · rw [if_pos h2] at h; cases h
    · rw [if_neg h2] at h
      by_cases h3 : s.2.1 = []
      · rw [if_pos h3] at h; cases h
      · rw [if_neg h3] at h
        cases h4 : chk pl [] s.2.1 with
        | some x => rw [h4] at h; cases h
        | none =>
          rw [h4] at h
          cases h5 : chk pl [] s.2.2 with
          | some x => rw [h5] at h; cases h
          | none => exact ⟨h1, h2, h3, rfl, rfl⟩
  · rw [if_neg h1] at h; cases h
theorem stepsDue_ok {pl : List Str} : ∀ {srs : List SRow} {seen : List Str}, stepsDue pl seen srs = none → seen.Nodup → (∀ r ∈ srs, Wd r.1 ∧ r.2.1 ≠ [] ∧ chk pl [] r.2.1 = none ∧ chk pl [] r.2.2 = none) ∧ (seen ++ srs.map (·.1)).Nodup
  | [], seen, _, hs => ⟨(fun r hr => by cases hr), by simpa using hs⟩
  | s :: r, seen, h, hs => by
    rw [stepsDue_cons] at h
    cases h1 : stepDue pl seen s with
    | some e => rw [h1] at h; cases h
    | none =>
      rw [h1] at h
      obtain ⟨a1, a2, a3, a4, a5⟩ := stepDue_ok h1
      obtain ⟨a, b⟩ := stepsDue_ok h (nodup_snoc hs a2)
      refine ⟨fun x hx => ?_, ?_⟩
      · rcases List.mem_cons.mp hx with rfl | hx
        · exact ⟨a1, a3, a4, a5⟩
        · exact a x hx
      · rw [List.map_cons]
        rw [List.append_assoc] at b
        exact b
theorem inOrd_idem (pl ns : List Str) : inOrd pl (inOrd pl ns) = inOrd pl ns := by
  unfold inOrd
  refine List.filter_congr fun y hy => ?_
  rw [decide_eq_decide, List.mem_filter, decide_eq_true_iff]
  exact ⟨fun h => h.2, fun h => ⟨hy, h⟩⟩
theorem planDue_ok {prs : List (Str × Int)} {srs : List SRow} (h : planDue prs srs = none) : PlanOk (planOf prs srs) := by
  unfold planDue at h
  by_cases h1 : 12 < prs.length
  · rw [if_pos h1] at h; cases h
  rw [if_neg h1] at h
  by_cases h2 : 16 < srs.length
  · rw [if_pos h2] at h; cases h
  rw [if_neg h2] at h
  cases h3 : placesDue [] prs with
  | some e => rw [h3] at h; cases h
  | none =>
    rw [h3] at h
    obtain ⟨a, b⟩ := placesDue_ok h3 List.nodup_nil
    obtain ⟨c, d⟩ := stepsDue_ok h List.nodup_nil
    refine ⟨fun y hy => ?_, by simpa [planOf] using b, by simp [planOf], fun n hn => ?_, fun r hr => ?_, ?_, by simp [planOf]; omega, by simp [planOf]; omega⟩
    · obtain ⟨r, hr, rfl⟩ := List.mem_map.mp hy
      exact (a r hr).1
    · obtain ⟨r, hr, rfl⟩ := List.mem_map.mp hn
      exact (a r hr).2
    · obtain ⟨s, hs, rfl⟩ := List.mem_map.mp hr
      obtain ⟨c1, c2, c3, c4⟩ := c s hs
      refine ⟨c1, fun q => c2 ?_, inOrd_idem _ _, inOrd_idem _ _⟩
      obtain ⟨n1, n2⟩ := chk_none.mp c3
      cases e : s.2.1 with
      | nil => rfl
      | cons y ys =>
        have hy : y ∈ s.2.1 := by rw [e]; exact List.mem_cons_self ..
        have : y ∈ inOrd (prs.map (·.1)) s.2.1 := by
          unfold inOrd
          exact List.mem_filter.mpr ⟨(n2 y hy).1, decide_eq_true hy⟩
        have q : inOrd (prs.map (·.1)) s.2.1 = [] := q
        rw [q] at this
        cases this
    · have : (planOf prs srs).names = srs.map (·.1) := by
        unfold PlanD.names planOf
        rw [List.map_map]
        rfl
      rw [this]
      simpa using d
theorem kvs_tab {F : Hp} : ∀ {kvs : List (L2.Key × V)} {rows : List (Str × List Str)}, KVs (zT zS) F kvs rows → TabAt F kvs rows
  | _, _, .nil => .nil
  | _, _, .cons ⟨h1, t, us, h2, h3, h4⟩ r => by
    obtain ⟨rfl, _⟩ := pvs_S h4
    exact .cons ⟨h1, t, h2, h3⟩ (kvs_tab r)
/-- a plan that is built is frozen -/
theorem plan_frz {fr : L2.Fr} {Θ : List Cel} {F H : Hp} {x C dx td tg : Addr} {d : PlanD} (ok : OkF fr (cI x C dx [("places", iz (zT zS) d.places), ("begin", iz (zT zI) d.begin), ("taken", zAt td), ("given", zAt tg), ("steps", iz (zT zS) d.names)] :: cD td (zT zS) d.tk :: cD tg (zT zS) d.gv :: Θ) F H) (hd : PlanOk d) : ∃ F', OkF fr Θ F' H ∧ (iz (zPlan C) d).p F' (.ref x) := by
  obtain ⟨n1, ⟨o, h1, us, rfl, f1⟩, _⟩ := ok.ce _ (.head _)
  obtain ⟨n2, ⟨o, h2, kt, rfl, f2⟩, _⟩ := ok.ce _ (.tail _ (.head _))
  obtain ⟨n3, ⟨o, h3, kg, rfl, f3⟩, _⟩ := ok.ce _ (.tail _ (.tail _ (.head _)))
  have h1 : H x = some (.ins C dx us) := h1
  have h2 : H td = some (.dK kt) := h2
  have h3 : H tg = some (.dK kg) := h3
  have ok1 := ok.frz (i := 0) rfl rfl h1
  have s1 : Same F (upd F x (.ins C dx us)) := same_upd n1
  have ok2 := ok1.frz (i := 0) rfl rfl h2
  have n2' : upd F x (.ins C dx us) td = none := (ok1.ce _ (.head _)).1
  have s2 := same_upd (o := .dK kt) n2'
  have ok3 := ok2.frz (i := 0) rfl rfl h3
  have n3' : upd (upd F x (.ins C dx us)) td (.dK kt) tg = none := (ok2.ce _ (.head _)).1
  have s3 := same_upd (o := .dK kg) n3'
  have s123 := (s1.trans s2).trans s3
  refine ⟨_, ok3, ?_⟩
  obtain ⟨w1, us1, rfl, ⟨tp, vp, rfl, p1, q1⟩, g1⟩ := fsok_cons f1
  obtain ⟨w2, us2, rfl, ⟨tb, vb, rfl, p2, q2⟩, g2⟩ := fsok_cons g1
  obtain ⟨w3, us3, rfl, e3, g3⟩ := fsok_cons g2
  obtain ⟨w4, us4, rfl, e4, g4⟩ := fsok_cons g3
  obtain ⟨w5, us5, rfl, ⟨ts, vs, rfl, p5, q5⟩, g5⟩ := fsok_cons g4
  have e3 : w3 = .ref td := e3
  have e4 : w4 = .ref tg := e4
  subst e3 e4
  cases g5
  obtain ⟨rfl, _⟩ := pvs_S q1
  have := pvs_I q2
  subst this
  obtain ⟨rfl, _⟩ := pvs_S q5
  exact ⟨x, rfl, ⟨dx, tp, tb, td, tg, ts, kt, kg, s3 _ _ (s2 _ _ upd_same), s123 _ _ p1, s123 _ _ p2, s3 _ _ upd_same, upd_same, s123 _ _ p5, kvs_tab (f2.mono s123), kvs_tab (f3.mono s123)⟩, hd⟩
end

/-! ## gplan4 -/
section
variable {P : Program} {w : World} {K : PySem.W.Frag} {mg : Str → Option Value} {base : Heap}
abbrev s_Plan___init__ : Stmt := inClass (topS 22) 0
theorem sc_Plan___init__ : FnScope ["self", "places", "steps", "words", "numbers", "word", "number", "takes", "gives"] ["self", "places", "steps"] (defScope s_Plan___init__) := ⟨rfl, rfl, rfl, by decide +kernel, rfl, by decide +kernel, by decide +kernel⟩
def preInit (cs : ECs) (C : Addr) : Pre := fun ps out err => ∃ prs srs, ps = [iz zPR prs, iz zSR srs] ∧ PRowsOk prs ∧ SRowsOk srs ∧ out = (fun p => planDue prs srs = none ∧ p = iz (zPlan C) (planOf prs srs)) ∧ err = fun e => ∃ y, planDue prs srs = some y ∧ e = erOf cs y
theorem ok_plan_initG {k : Nat} {cs : ECs} {C f_TooMany f_DoubleName : Addr} (B : Bl mg) (T_Plan : PlanC K mg C) (g_MOST_PLACES : Glo mg "MOST_PLACES" (.int 12)) (g_MOST_STEPS : Glo mg "MOST_STEPS" (.int 16)) (g_MOST_BEGIN : Glo mg "MOST_BEGIN" (.int 99))
    (X_TooMany : ErrTxt P K mg true "TooMany" cs.tooMany f_TooMany ["kind", "limit"]) (X_DoubleName : ErrTxt P K mg false "DoubleName" cs.double f_DoubleName ["name"])
    (D_check_word : Def P w K mg base (L2.CX P w) k "check_word" ["word"] (spA (preCheckWord cs))) (D_check_number : Def P w K mg base (L2.CX P w) k "check_number" ["number", "least", "most"] (spA (preCheckNumber cs)))
    (DM_Plan_put_step : DefM P w K mg base (L2.CX P w) k C "put_step" ["self", "word", "takes", "gives"] (spC (prePut cs C)))
    (F : SrcI K C "Plan.__init__" s_Plan___init__ ["self", "places", "steps"]) : DefI P w K mg base (L2.CX P w) (k + 1) C ["self", "places", "steps"] (spI C (preInit cs C)) := by
  refine F.okAX sc_Plan___init__ (fun qs out err ⟨_, _, h, _⟩ => by rw [h]; rfl) (fun f cdv A outer s H E qs out err hr hpre => ?_)
  obtain ⟨prs, srs, rfl, okP, okS, rfl, rfl⟩ := hpre
  refine ⟨_, (pss_cons (ps_if (pt_cmpR op_gt (pe_callB (kcall_len (K := K)) (by rfl) B.len PySem.boot_len (pa_cons (pv 1) pa_nil)) (pe_glo g_MOST_PLACES) (nomark _)) (pss_one (ps_raiseE rfl X_TooMany hr (takes_of rfl rfl rfl rfl) (pa_cons pe_str (pa_cons (pe_glo g_MOST_PLACES) pa_nil)))) pss_nil)
 (pss_cons (ps_if (pt_cmpR op_gt (pe_callB (kcall_len (K := K)) (by rfl) B.len PySem.boot_len (pa_cons (pv 2) pa_nil)) (pe_glo g_MOST_STEPS) (nomark _)) (pss_one (ps_raiseE rfl X_TooMany hr (takes_of rfl rfl rfl rfl) (pa_cons pe_str (pa_cons (pe_glo g_MOST_STEPS) pa_nil)))) pss_nil)
 (pss_cons (ps_asg (pe_lst pa_nil) (pg_name (i := 3) sc_Plan___init__.nd rfl (Or.inl rfl)))
 (pss_cons (ps_asg (pe_lst pa_nil) (pg_name (i := 4) sc_Plan___init__.nd rfl (Or.inl rfl)))
 (pss_cons (ps_for (passes_of rfl) rfl (kpi_list (K := K) (pv 1)) (pg_tup rfl (pgs_cons (pg_name (i := 5) sc_Plan___init__.nd rfl (Or.inl rfl)) (pgs_cons (pg_name (i := 6) sc_Plan___init__.nd rfl (Or.inl rfl)) pgs_nil))) (pss_cons (ps_expr (pe_def D_check_word hr (passes_call (takes_of rfl rfl rfl rfl) (fun _ _ _ _ h => h)) (pa_cons (pv 5) pa_nil)))
 (pss_cons (ps_if (pt_cmpR (kop_in (K := K)) (pv 5) (pv 3) rfl) (pss_one (ps_raiseE rfl X_DoubleName hr (takes_of rfl rfl rfl rfl) (pa_cons (pv 5) pa_nil))) pss_nil)
 (pss_cons (ps_expr (pe_bm PySem.F.plainAttrs_list PySem.F.slot_list_append PySem.F.type_list_append mt_append (pv 4) (pa_cons (pe_def D_check_number hr (passes_call (takes_of rfl rfl rfl rfl) (fun _ _ _ _ h => h)) (pa_cons (pv 6) (pa_cons pe_int (pa_cons (pe_glo g_MOST_BEGIN) pa_nil)))) pa_nil)))
 (pss_one (ps_expr (pe_bm PySem.F.plainAttrs_list PySem.F.slot_list_append PySem.F.type_list_append mt_append (pv 3) (pa_cons (pv 5) pa_nil))))))))
 (pss_cons (kps_fld (K := K) (pv 0) (pe_callTy (kcall_tuple (K := K)) (by rfl) B.tuple' (by decide +kernel) (pa_cons (pv 3) pa_nil)))
 (pss_cons (kps_fld (K := K) (pv 0) (pe_callTy (kcall_tuple (K := K)) (by rfl) B.tuple' (by decide +kernel) (pa_cons (pv 4) pa_nil)))
 (pss_cons (kps_fld (K := K) (pv 0) pe_dnewK)
 (pss_cons (kps_fld (K := K) (pv 0) pe_dnewK)
 (pss_cons (ps_for (passes_of rfl) rfl (kpi_list (K := K) (pv 2)) (pg_tup rfl (pgs_cons (pg_name (i := 5) sc_Plan___init__.nd rfl (Or.inl rfl)) (pgs_cons (pg_name (i := 7) sc_Plan___init__.nd rfl (Or.inl rfl)) (pgs_cons (pg_name (i := 8) sc_Plan___init__.nd rfl (Or.inl rfl)) pgs_nil)))) (pss_one (ps_expr (pe_metD DM_Plan_put_step T_Plan.cl hr (fun σ => Passes.at (passes_call (takes_of rfl rfl rfl rfl) (fun _ _ _ _ h => h)) σ) (pv 0) (pa_cons (pv 5) (pa_cons (pv 7) (pa_cons (pv 8) pa_nil)))))))
 (pss_one (kps_fld (K := K) (pv 0) (pe_callTy (kcall_tuple (K := K)) (by rfl) B.tuple' (by decide +kernel) (pa_cons (pe_callTy (call_list_dK rfl) (by rfl) B.list' (by decide +kernel) (pa_cons (kpe_fld (K := K) (pv 0)) pa_nil)) pa_nil)))))))))))))), fun fr x dx Q rt hQ hrt hrse => ?_⟩
  have er : ∀ {fr' : L2.Fr} {Γ : Gam} {Θ : List Cel} {y : PErr}, FrLe fr fr' → planDue prs srs = some y → Kr fr' Γ Θ (fun cls d _ H => E cls d H) (erOf cs y) := fun {fr' Γ Θ y} le h => kr_E (hrse.fine le) ⟨y, h, rfl⟩
  have le0 : FrLe fr fr := ⟨rfl, rfl, Same.refl _, fun a o h => .inl ⟨o, h⟩⟩
  ac_rfl
  refine ⟨fun h => ?_, fun h => ?_⟩
  · have h := of_decide_eq_true h
    ac_rfl
    refine ⟨rfl, (fun _ => ⟨_, _, rfl, by decide⟩), er (y := .tooMany "places" 12) le0 ?_⟩
    unfold planDue
    rw [if_pos (by omega)]
  have h1 : ¬ 12 < prs.length := fun q => of_decide_eq_false h (by omega)
  ac_rfl
  refine ⟨fun h => ?_, fun h => ?_⟩
  · have h := of_decide_eq_true h
    ac_rfl
    refine ⟨rfl, (fun _ => ⟨_, _, rfl, by decide⟩), er (y := .tooMany "steps" 16) le0 ?_⟩
    unfold planDue
    rw [if_neg h1, if_pos (by omega)]
  have h2 : ¬ 16 < srs.length := fun q => of_decide_eq_false h (by omega)
  have pd1 : ∀ {y : PErr}, placesDue [] prs = some y → planDue prs srs = some y := fun {y} h => by
    unfold planDue
    rw [if_neg h1, if_neg h2, h]
  have pd2 : placesDue [] prs = none → planDue prs srs = stepsDue (prs.map (·.1)) [] srs := fun h => by
    unfold planDue
    rw [if_neg h1, if_neg h2, h]
  ac_rfl
  refine we_nil zS fun a1 => ?_
  ac_rfl
  refine we_nil zI fun a2 => ?_
  ac_rfl
  refine kn_forS (S := List (Str × Int)) (r := z2 zS zI) (xs := prs) (fun _ => [some (zAt x), some (iz zPR prs), some (iz zSR srs), some (zAt a1), some (zAt a2), none, none, none, none]) (fun d => [cL a2 zI (d.map (·.2)), cL a1 zS (d.map (·.1)), cI x C dx []])
    (fun i d => d = prs.take i ∧ placesDue [] prs = placesDue (d.map (·.1)) (prs.drop i)) [] ?_ ?_ ⟨rfl, rfl⟩ (fun x s => tg2 (by decide)) (fun fr' le i r d hi hP => ?_) (fun d hP => ?_)
  · ac_rfl
  · and_intros
  · obtain ⟨hd, hdue⟩ := hP
    obtain ⟨z, n⟩ := r
    rw [drop_at hi, placesDue_cons] at hdue
    have lz : z.length ≤ 1000 := okP _ (List.mem_of_getElem? hi)
    have ld : d.length ≤ 12 := by rw [hd]; have := List.length_take_le i prs; rw [List.length_take] at this ⊢; omega
    subst_vars
    bv_omega
    refine kn_drop ?_
    ac_rfl
    refine sps_A ⟨z, rfl, lz, rfl, rfl⟩ (fun p ⟨hw, hp⟩ => ?_) (fun e ⟨hw, he⟩ => ?_)
    rotate_left
    · subst he
      refine er le (pd1 ?_)
      rw [hdue, if_neg (by rw [hw]; exact Bool.false_ne_true)]
    rw [if_pos hw] at hdue
    ac_rfl
    refine ops_inS (seq_C (.tail _ (.head _))) ?_
    ac_rfl
    refine ⟨fun h => ?_, fun h => ?_⟩
    · have h := of_decide_eq_true h
      ac_rfl
      refine ⟨rfl, (fun h => nomatch h), er (y := .double z) le (pd1 ?_)⟩
      rw [hdue, if_pos h]
    have h3 := of_decide_eq_false h
    rw [if_neg h3] at hdue
    ac_rfl
    refine kn_append rfl (.head _) ?_
    ac_rfl
    refine sps_A ⟨n, 0, 99, rfl, rfl, rfl⟩ (fun p ⟨hn, hp⟩ => ?_) (fun e ⟨hn, he⟩ => ?_)
    rotate_left
    · subst he
      refine er le (pd1 ?_)
      rw [hdue, if_neg hn]
    subst hp
    rw [if_pos hn] at hdue
    refine ⟨_, 0, rfl, rfl, by rw [List.length_map]; omega, ?_⟩
    subst_vars
    refine kn_append rfl (.tail _ (.head _)) ?_
    ac_rfl
    refine ⟨_, 1, rfl, rfl, by rw [List.length_map]; omega, ?_⟩
    subst_vars
    refine kn_back (d ++ [(z, n)]) ?_ ⟨?_, ?_⟩ ?_
    · and_intros
    · rw [take_more hi, hd]
    · rw [hdue, List.map_append]
      rfl
    · rw [List.map_append, List.map_append]
      rfl
  obtain ⟨hd, hdue⟩ := hP
  rw [List.take_length] at hd
  subst hd
  rw [List.drop_length] at hdue
  have hdue : placesDue [] d = none := hdue
  have hpd := pd2 hdue
  subst_vars
  bv_omega
  refine kn_fldPut ?_
  ac_rfl
  refine cb_tupleC (.tail _ (.head _)) ?_
  ac_rfl
  refine ⟨x, C, dx, [], 2, rfl, rfl, T_Plan.cl, T_Plan.nP, by decide, ?_⟩
  subst_vars
  bv_omega
  refine kn_fldPut ?_
  ac_rfl
  refine cb_tupleC (.head _) ?_
  ac_rfl
  refine ⟨x, C, dx, _, 2, rfl, rfl, T_Plan.cl, T_Plan.nB, (show 1 < 1000 by decide), ?_⟩
  subst_vars
  bv_omega
  refine kn_fldPut (we_dnew (zT zS) fun td => ?_)
  ac_rfl
  refine ⟨x, C, dx, _, 3, rfl, rfl, T_Plan.cl, T_Plan.nT, (show 2 < 1000 by decide), ?_⟩
  subst_vars
  bv_omega
  refine kn_fldPut (we_dnew (zT zS) fun tg => ?_)
  ac_rfl
  refine ⟨x, C, dx, _, 4, rfl, rfl, T_Plan.cl, T_Plan.nG, (show 3 < 1000 by decide), ?_⟩
  subst_vars
  have e4 : putP "given" (zAt tg) (putP "taken" (zAt td) (putP "begin" (iz (zT zI) (d.map (·.2))) (putP "places" (iz (zT zS) (d.map (·.1))) []))) = planFs (d.map (·.1)) (d.map (·.2)) td tg := rfl
  rw [e4]
  refine Kn.perm (Θ' := halfC x C dx td tg (d.map (·.1)) (d.map (·.2)) [] ++ [cL a2 zI (d.map (·.2)), cL a1 zS (d.map (·.1))]) ?_ ?_
  rotate_left
  · unfold halfC
    refine (List.perm_append_singleton _ [cD tg (zT zS) [], cD td (zT zS) [], cL a2 zI (d.map (·.2)), cL a1 zS (d.map (·.1))]).trans (.cons _ (.swap _ _ _))
  bv_omega
  refine kn_forS (S := List SRow) (r := z3 zS (zL zS) (zL zS)) (xs := srs) (fun _ => [some (zAt x), some (iz zPR d), some (iz zSR srs), some (zAt a1), some (zAt a2), none, none, none, none])
    (fun ss => halfC x C dx td tg (d.map (·.1)) (d.map (·.2)) ss ++ [cL a2 zI (d.map (·.2)), cL a1 zS (d.map (·.1))])
    (fun i ss => ss = (srs.take i).map (ordRow (d.map (·.1))) ∧ stepsDue (d.map (·.1)) [] srs = stepsDue (d.map (·.1)) ((srs.take i).map (·.1)) (srs.drop i)) [] ?_ ?_ ⟨rfl, rfl⟩ (fun x s => tg3 (by decide) (by decide) (by decide)) (fun fr' le i r ss hi hP => ?_) (fun ss hP => ?_)
  · ac_rfl
  · and_intros
  · obtain ⟨hs, hsd⟩ := hP
    have hnm : ss.map (·.1) = (srs.take i).map (·.1) := by rw [hs, List.map_map]; rfl
    rw [drop_at hi, stepsDue_cons] at hsd
    obtain ⟨o1, o2, o3⟩ := okS r (List.mem_of_getElem? hi)
    have lss : ss.length ≤ 16 := by rw [hs, List.length_map, List.length_take]; omega
    subst_vars
    refine kn_drop (we_met (we_var rfl ⟨ins_C (.head _) rfl, ?_⟩))
    ac_rfl
    refine sps_C (Θr := [cL a2 zI (d.map (·.2)), cL a1 zS (d.map (·.1))]) ⟨x, dx, td, tg, d.map (·.1), d.map (·.2), ss, r, rfl, rfl, o1, o2, o3, by rw [List.length_map]; omega, lss, rfl, rfl⟩ (.refl _) (fun p Θ' ⟨hdn, hp, hΘ⟩ => ?_) (fun e Θ' ⟨y, hy, he, hΘ⟩ => ?_)
    · subst hp hΘ
      rw [hnm] at hdn
      rw [hdn] at hsd
      refine kn_back (ss ++ [ordRow (d.map (·.1)) r]) ?_ ⟨?_, ?_⟩ rfl
      · and_intros
      · rw [take_more hi, List.map_append, hs]
        rfl
      · rw [hsd, take_more hi, List.map_append]
        rfl
    · subst he hΘ
      rw [hnm] at hy
      rw [hy] at hsd
      exact er le (by rw [hpd]; exact hsd)
  obtain ⟨hs, hsd⟩ := hP
  rw [List.take_length] at hs
  rw [List.drop_length] at hsd
  have hsd : stepsDue (d.map (·.1)) [] srs = none := hsd
  have hall : planDue d srs = none := by rw [hpd]; exact hsd
  have hok := planDue_ok hall
  have hss : (planOf d srs).steps = ss := by rw [hs]; rfl
  subst_vars
  refine kn_fldPut ?_
  ac_rfl
  refine ⟨_, fld_C (.head _) T_Plan.cl T_Plan.nT rfl, ?_⟩
  ac_rfl
  refine cb_listD (dic_C (.tail _ (.head _))) (fun y hy => ?_) ?_
  · obtain ⟨r, hr, rfl⟩ := List.mem_map.mp hy
    rw [← hss] at hr
    exact (hok.st r hr).1.asc
  ac_rfl
  refine ⟨x, C, dx, _, 0, rfl, rfl, T_Plan.cl, T_Plan.nS, (show 4 < 1000 by decide), ?_⟩
  intro σ F' H' ok env
  have ed : (planOf d srs).names = (tkR ss).map (·.1) := by
    unfold PlanD.names tkR
    rw [hss, List.map_map]
    rfl
  have etk : (planOf d srs).tk = tkR ss := by unfold PlanD.tk tkR; rw [hss]
  have egv : (planOf d srs).gv = gvR ss := by unfold PlanD.gv gvR; rw [hss]
  rw [← ed] at ok
  have ok : OkF fr (cI x C dx [("places", iz (zT zS) (planOf d srs).places), ("begin", iz (zT zI) (planOf d srs).begin), ("taken", zAt td), ("given", zAt tg), ("steps", iz (zT zS) (planOf d srs).names)] :: cD td (zT zS) (planOf d srs).tk :: cD tg (zT zS) (planOf d srs).gv :: [cL a2 zI (d.map (·.2)), cL a1 zS (d.map (·.1))]) F' H' := by
    rw [etk, egv]
    exact ok
  obtain ⟨F2, ok2, hp2⟩ := plan_frz ok hok
  exact hQ _ ⟨hall, rfl⟩ σ F2 H' ⟨_, ok2⟩ hp2
end

/-! ## wad -/
section
variable {P : Program} {w : World} {K : PySem.W.Frag} {mg : Str → Option Value} {base : Heap}
/-! what is proved of plans and rows, by what it computes -/
theorem fs_due {F : Hp} {cs : EK → Addr} {y : PErr} {us : List (Str × V)} (hb : ∀ z, strE y = some z → z.length ≤ 1000) (hk : ∀ k l, y = .tooMany k l → k.length ≤ 1000) (h : FsOk F (erOf (ecs cs) y).fs us) : FsOk F (erW cs (heOf y)).fs us ∧ (erOf (ecs cs) y).C = (erW cs (heOf y)).C := by
  have up : ∀ {z : Str} {v : V}, z.length ≤ 1000 → (iz zS z).p F v → (iz yS z).p F v := fun hz h => ⟨h, Nat.le_trans hz (by decide)⟩
  cases y with
  | tooMany k l =>
    refine ⟨?_, rfl⟩
    cases h with
    | cons h1 h => cases h with
      | cons h2 h => exact .cons h1 (.cons ⟨h2.1, up (hk k l rfl) h2.2⟩ h)
  | badWord z =>
    refine ⟨?_, rfl⟩
    cases h with
    | cons h1 h => exact .cons ⟨h1.1, up (hb z rfl) h1.2⟩ h
  | double z =>
    refine ⟨?_, rfl⟩
    cases h with
    | cons h1 h => exact .cons ⟨h1.1, up (hb z rfl) h1.2⟩ h
  | badNumber n => exact ⟨h, rfl⟩
  | empty z =>
    refine ⟨?_, rfl⟩
    cases h with
    | cons h1 h => exact .cons ⟨h1.1, up (hb z rfl) h1.2⟩ h
  | unknown z =>
    refine ⟨?_, rfl⟩
    cases h with
    | cons h1 h => exact .cons ⟨h1.1, up (hb z rfl) h1.2⟩ h
theorem due_kind {prs : List (Str × Int)} {srs : List SRow} {k : Str} {l : Int} (h : planDue prs srs = some (.tooMany k l)) : k.length ≤ 1000 := by
  have hp : ∀ (seen : List Str) (prs : List (Str × Int)), placesDue seen prs ≠ some (.tooMany k l) := by
    intro seen prs
    induction prs generalizing seen with
    | nil => intro h; cases h
    | cons r prs ih =>
      obtain ⟨w, n⟩ := r
      rw [placesDue_cons]
      split
      · split
        · intro h; cases h
        · split
          · exact ih _
          · intro h; cases h
      · intro h; cases h
  have hn : ∀ x, nameErr x ≠ .tooMany k l := by
    intro x
    obtain ⟨b, n⟩ := x
    cases b <;> intro h <;> cases h
  have hs : ∀ (ps seen : List Str) (srs : List SRow), stepsDue ps seen srs ≠ some (.tooMany k l) := by
    intro ps seen srs
    induction srs generalizing seen with
    | nil => intro h; cases h
    | cons s srs ih =>
      rw [stepsDue_cons]
      split
      · rename_i e he
        intro h
        cases h
        unfold stepDue at he
        split at he
        · split at he
          · cases he
          · split at he
            · cases he
            · split at he
              · rename_i x hx
                exact hn x (Option.some.inj he)
              · obtain ⟨x, _, e2⟩ := Option.map_eq_some_iff.mp he
                exact hn x e2
        · cases he
      · exact ih _
  unfold planDue at h
  split at h
  · cases h; decide
  · split at h
    · cases h; decide
    · split at h
      · rename_i e he
        cases h
        exact absurd he (hp _ _)
      · exact absurd h (hs _ _ _)
theorem planW {cs : EK → Addr} {C : Addr} {k : Nat} {ps : List Str} (D : DefI P w K mg base (L2.CX P w) k C ps (spI C (preInit (ecs cs) C))) : DefI P w K mg base (L2.CX P w) k C ps (spI C (preW (erW cs) (fun x : List (Str × Int) × List SRow => [iz yPR x.1, iz ySR x.2]) (zPlan C) (fun x => mk_Plan x.1 x.2))) := D.imp fun vs H Q E ⟨x, dx, vs', F, qs, out, err, h1, h2, h3, h4, h5, ⟨⟨prs, srs⟩, Qm, Xm, e1, ⟨hb, hq, hx⟩, e2, e3⟩, ho, he⟩ => by
  subst e1 e2 e3
  have ok1 : PRowsOk prs := hb.1
  have ok2 : SRowsOk srs := fun r hr => ⟨(hb.2 r hr).1, (hb.2 r hr).2.1, (hb.2 r hr).2.2.1⟩
  refine ⟨x, dx, vs', F, [iz zPR prs, iz zSR srs], _, _, h1, h2, h3, h4, ?_, ⟨prs, srs, rfl, ok1, ok2, rfl, rfl⟩, fun p ⟨hd, e⟩ => ho p ⟨_, hq hd, e⟩, fun e ⟨y, hy, e2⟩ F' H' d us a1 a2 a3 a4 a5 a6 => ?_⟩
  · cases h5 with
    | cons b1 h5 => cases h5 with
      | cons b2 h5 => cases h5 with
        | nil => exact .cons (le_PR _ _ b1) (.cons (le_SR _ _ b2) .nil)
  · subst e2
    obtain ⟨c1, c2⟩ := fs_due (cs := cs) (fun z hz => due_str hb hy hz) (fun k l e => by subst e; exact due_kind hy) a6
    rw [c2]
    exact he (erW cs (heOf y)) ⟨_, hx y hy, rfl⟩ F' H' d us a1 a2 a3 a4 a5 c1
end

/-! ## planm -/
section
variable {P : Program} {w : World} {K : PySem.W.Frag} {mg : Str → Option Value} {base : Heap}
abbrev s_Plan_place_rows : Stmt := inClass (topS 22) 5
theorem sc_Plan_place_rows : FnScope ["self", "k"] ["self"] (defScope s_Plan_place_rows) := ⟨rfl, rfl, rfl, by decide +kernel, rfl, by decide +kernel, by decide +kernel⟩
def m_Plan_place_rows (p_self : PlanD) : DM (List (Str × Int)) := fun Q X =>
  mapD (intsF 0 (((p_self.places).length : Int)).toNat) [] (fun x1 k2 =>
  ∃ v6, atI p_self.places x1 = some v6 ∧
  ∃ v7, atI p_self.begin x1 = some v7 ∧
  k2 (v6, v7)) (fun ys3 =>
  Q ys3)
theorem ok_Plan_place_rows {k : Nat} {cs : EK → Addr} {C : Addr} (B : Bl mg) (T_Plan : PlanC K mg C)
    (F : SrcM K C "place_rows" "Plan.place_rows" s_Plan_place_rows ["self"]) : DefM P w K mg base CX0 (k + 1) C "place_rows" ["self"] (spA (preW (erW cs) (fun x : PlanD => [iz (zPlan C) x]) (yL (z2 yS zI)) (fun x => m_Plan_place_rows x))) := by
  refine F.okW sc_Plan_place_rows (fun _ => rfl) (fun f cdv A outer s H E p_self Q X hr h => ⟨_, (pss_one (ps_ret (pe_lc (own := [("k", 1)]) (g := gName 1) (by rfl) sc_Plan_place_rows.nd (pi_range1 (by rfl) B.range (pa_cons (pe_callB (kcall_len (K := K)) (by rfl) B.len PySem.boot_len (pa_cons (kpe_fld (K := K) (pv 0)) pa_nil)) pa_nil)) (blkOk_by (N := ["self", "k"]) (sc := defScope s_Plan_place_rows) (by decide +kernel)) (fun _ _ _ _ _ => (pg_name (i := 1) sc_Plan_place_rows.nd rfl (Or.inl rfl))) (fun _ _ _ _ _ => pts_nil) (fun _ _ _ _ _ => (pe_tup (pa_cons (pe_ix (kix_tup (K := K)) (kpe_fld (K := K) (pv 0)) (pv 1) (fun _ _ => rfl)) (pa_cons (pe_ix (kix_tup (K := K)) (kpe_fld (K := K) (pv 0)) (pv 1) (fun _ _ => rfl)) pa_nil))))))), fun fr Qv hret => ?_⟩)
  replace h : m_Plan_place_rows p_self Q X := h
  unfold m_Plan_place_rows at h
  refine kn_ret (we_lcM (r := zI) (s := (z2 yS zI)) (wi_range (wa_cons (we_cb (wa_cons (we_fld (we_var rfl (⟨_, fy_places T_Plan, wa_nil (cy_len sy_T (fun e4 => (wa_nil (⟨_, rfl, (by have hb : big = 100000 := rfl; omega), (by have hb : big = 100000 := rfl; omega), ⟨_, _, _, _, rfl, rfl, (intsF_big (by have hb : big = 100000 := rfl; omega)), fun _ => tg_name, h, fun x1 c k2 h => ?_, fun ys3 h eys3 => ?_⟩⟩))))⟩))))))))
  · refine we_tup (wa_cons (we_op (we_fld (we_var rfl (⟨_, fy_places T_Plan, we_var rfl ?_⟩)))))
    obtain ⟨v6, ev6, h⟩ := h
    refine oy_ixT ev6 (wa_cons (we_op (we_fld (we_var rfl (⟨_, fy_begin T_Plan, we_var rfl ?_⟩)))))
    obtain ⟨v7, ev7, h⟩ := h
    refine oy_ixT ev7 (wa_nil (⟨Nat.le_of_ble_eq_true rfl, iz (z2 yS zI) (v6, v7), tr2, ?_⟩))
    exact ⟨rfl, _, rfl, h⟩
  exact hret _ h _
abbrev s_Plan_step_rows : Stmt := inClass (topS 22) 6
theorem sc_Plan_step_rows : FnScope ["self", "step"] ["self"] (defScope s_Plan_step_rows) := ⟨rfl, rfl, rfl, by decide +kernel, rfl, by decide +kernel, by decide +kernel⟩
def m_Plan_step_rows (p_self : PlanD) : DM (List (Str × (List Str) × (List Str))) := fun Q X =>
  mapD p_self.names [] (fun x1 k2 =>
  ∃ v6, getR p_self.tk x1 = some v6 ∧
  ∃ v7, getR p_self.gv x1 = some v7 ∧
  k2 (x1, v6, v7)) (fun ys3 =>
  Q ys3)
theorem ok_Plan_step_rows {k : Nat} {cs : EK → Addr} {C : Addr} (B : Bl mg) (T_Plan : PlanC K mg C)
    (F : SrcM K C "step_rows" "Plan.step_rows" s_Plan_step_rows ["self"]) : DefM P w K mg base CX0 (k + 1) C "step_rows" ["self"] (spA (preW (erW cs) (fun x : PlanD => [iz (zPlan C) x]) (yL (z3 yS (yL yS) (yL yS))) (fun x => m_Plan_step_rows x))) := by
  refine F.okW sc_Plan_step_rows (fun _ => rfl) (fun f cdv A outer s H E p_self Q X hr h => ⟨_, (pss_one (ps_ret (pe_lc (own := [("step", 1)]) (g := gName 1) (by rfl) sc_Plan_step_rows.nd (kpi_tup (K := K) (kpe_fld (K := K) (pv 0))) (blkOk_by (N := ["self", "step"]) (sc := defScope s_Plan_step_rows) (by decide +kernel)) (fun _ _ _ _ _ => (pg_name (i := 1) sc_Plan_step_rows.nd rfl (Or.inl rfl))) (fun _ _ _ _ _ => pts_nil) (fun _ _ _ _ _ => (pe_tup (pa_cons (pv 1) (pa_cons (pe_callTy (kcall_list (K := K)) (by rfl) B.list' (by decide +kernel) (pa_cons (pe_dget (hu_of hr) (kpe_fld (K := K) (pv 0)) (pv 1) (fun _ _ => rfl)) pa_nil)) (pa_cons (pe_callTy (kcall_list (K := K)) (by rfl) B.list' (by decide +kernel) (pa_cons (pe_dget (hu_of hr) (kpe_fld (K := K) (pv 0)) (pv 1) (fun _ _ => rfl)) pa_nil)) pa_nil)))))))), fun fr Qv hret => ?_⟩)
  replace h : m_Plan_step_rows p_self Q X := h
  unfold m_Plan_step_rows at h
  refine kn_ret (we_lcM (r := yS) (s := (z3 yS (yL yS) (yL yS))) (wi_yT (we_fld (we_var rfl (⟨_, fy_steps T_Plan, ⟨_, _, _, rfl, fun e4 => ⟨_, _, _, _, rfl, rfl, e4, fun _ => tg_name, h, fun x1 c k2 h => ?_, fun ys3 h eys3 => ?_⟩⟩⟩)))))
  · refine we_tup (wa_cons (we_var rfl (wa_cons (we_cb (wa_cons (wy_dget (we_fld (we_var rfl (⟨_, fy_taken T_Plan, we_var rfl ?_⟩)))))))))
    obtain ⟨v6, ev6, h⟩ := h
    refine ⟨_, _, _, _, _, dy_D, rfl, ev6, wa_nil (cy_list sy_T (wa_cons (we_cb (wa_cons (wy_dget (we_fld (we_var rfl (⟨_, fy_given T_Plan, we_var rfl ?_⟩))))))))⟩
    obtain ⟨v7, ev7, h⟩ := h
    refine ⟨_, _, _, _, _, dy_D, rfl, ev7, wa_nil (cy_list sy_T (wa_nil (⟨Nat.le_of_ble_eq_true rfl, iz (z3 yS (yL yS) (yL yS)) (x1, v6, v7), tr3, ?_⟩)))⟩
    exact ⟨rfl, _, rfl, h⟩
  exact hret _ h _
abbrev s_Plan___eq__ : Stmt := inClass (topS 22) 12
theorem sc_Plan___eq__ : FnScope ["self", "other"] ["self", "other"] (defScope s_Plan___eq__) := ⟨rfl, rfl, rfl, by decide +kernel, rfl, by decide +kernel, by decide +kernel⟩
def m_Plan___eq__ (p_self : PlanD) (p_other : PlanD) : DM Bool := fun Q X =>
  ifD (!true) (
  True) (
  ifD ((!decide (p_self.places = p_other.places)) || (!decide (p_self.begin = p_other.begin))) (
  Q false) (
  Q ((decide (p_self.names = p_other.names)) && ((dEq p_self.tk p_other.tk) && (dEq p_self.gv p_other.gv)))))
theorem ok_Plan___eq__ {k : Nat} {cs : EK → Addr} {C : Addr} (B : Bl mg) (T_Plan : PlanC K mg C) (O_Plan : IsO K C) (kt_Plan_Plan : PySem.W.kitOne K (.ref C) (.ref C) = some true)
    (F : SrcM K C "__eq__" "Plan.__eq__" s_Plan___eq__ ["self", "other"]) : DefM P w K mg base CX0 (k + 1) C "__eq__" ["self", "other"] (spA (preW (erW cs) (fun x : PlanD × PlanD => [iz (zPlan C) x.1, iz (zPlan C) x.2]) zB (fun x => m_Plan___eq__ x.1 x.2))) := by
  refine F.okW sc_Plan___eq__ (fun _ => rfl) (fun f cdv A outer s H E x Q X hr h => ⟨_, (pss_cons (ps_if (pt_not (pt_val (pe_callB (kcall_isi (K := K)) (by rfl) B.isinstance (by decide +kernel) (pa_cons (pv 1) (pa_cons (pe_glo (glo_plan T_Plan)) pa_nil))))) pss_false pss_nil)
 (pss_cons (ps_if (PW.pt (pw_or (pt_cmpR (kop_neD (K := K) hr.units) (kpe_fld (K := K) (pv 0)) (kpe_fld (K := K) (pv 1)) (nomark _)) (pw_or1 (pt_cmpR (kop_neD (K := K) hr.units) (kpe_fld (K := K) (pv 0)) (kpe_fld (K := K) (pv 1)) (nomark _))))) (pss_one (ps_ret pe_bl)) pss_nil)
 (pss_one (ps_ret (pe_and (pe_cmpR (kop_eqD (K := K) hr.units) (kpe_fld (K := K) (pv 0)) (kpe_fld (K := K) (pv 1)) (nomark _)) (pe_and (pe_cmpR (op_eqDD (K := K) (un200 hr)) (kpe_fld (K := K) (pv 0)) (kpe_fld (K := K) (pv 1)) (nomark _)) (pe_one (pe_cmpR (op_eqDD (K := K) (un200 hr)) (kpe_fld (K := K) (pv 0)) (kpe_fld (K := K) (pv 1)) (nomark _))))))))), fun fr Qv hret => ?_⟩)
  obtain ⟨p_self, p_other⟩ := x
  replace h : m_Plan___eq__ p_self p_other Q X := h
  unfold m_Plan___eq__ at h
  refine kn_seq (kn_if (wt_not (wt_b (we_cb (wa_cons (we_var rfl (wa_cons (we_cA (wa_nil (cb_isO O_Plan (InsP.c (ins_plan (m := "__contains__") rfl)) kt_Plan_Plan (⟨_, rfl, ⟨fun hc => ?_, fun hc => ?_⟩⟩)))))))))))
  · exact absurd hc (by decide)
  · have h := h.2 hc
    refine kn_next ?_
    try dsimp only
    refine kn_seq (kn_if (wt_orP (wt_test (we_op (we_fld (we_var rfl (⟨_, fy_places T_Plan, we_fld (we_var rfl (⟨_, fy_places T_Plan, ops_neD (r := (yT yS)) (by decide) (⟨_, rfl, ⟨_, fun _ => wt_test (we_op (we_fld (we_var rfl (⟨_, fy_begin T_Plan, we_fld (we_var rfl (⟨_, fy_begin T_Plan, ops_neD (r := (yT zI)) (by decide) (⟨_, rfl, ⟨rfl, rfl⟩⟩)⟩))⟩)))), ⟨fun hc => ?_, fun hc => ?_⟩⟩⟩)⟩))⟩)))))))
    · have h := h.1 hc
      refine kn_ret (we_cB ?_)
      exact hret _ h _
    · have h := h.2 hc
      refine kn_next ?_
      try dsimp only
      refine kn_ret (we_andP (we_op (we_fld (we_var rfl (⟨_, fy_steps T_Plan, we_fld (we_var rfl (⟨_, fy_steps T_Plan, ops_eqD (r := (yT yS)) (by decide) (⟨_, _, rfl, fun _ => we_andP (we_op (we_fld (we_var rfl (⟨_, fy_taken T_Plan, we_fld (we_var rfl (⟨_, fy_taken T_Plan, oy_eqDD (r := (yT yS)) (by decide) (⟨_, _, rfl, fun _ => we_op (we_fld (we_var rfl (⟨_, fy_given T_Plan, we_fld (we_var rfl (⟨_, fy_given T_Plan, oy_eqDD (r := (yT yS)) (by decide) (⟨rfl, rfl⟩)⟩))⟩))), ⟨rfl, rfl⟩⟩)⟩))⟩)))), ?_⟩)⟩))⟩)))))
      exact hret _ h _
end

/-! ## planmp -/
section
/-! a plan's rows told, plans compared -/
theorem place_rows_ok {d : PlanD} {prs : List (Str × Int)} {Q : List (Str × Int) → Prop} {X : HE → Prop} (h1 : d.places = prs.map (·.1)) (h2 : d.begin = prs.map (·.2)) (h : Q prs) : m_Plan_place_rows d Q X := by
  unfold m_Plan_place_rows
  rw [Int.toNat_natCast, h1, h2]
  have hl : (prs.map (·.1)).length = prs.length := List.length_map _
  rw [hl]
  refine mapD_ok (fun k : Int => prs.getD k.toNat (("" : Str), 0)) (fun k hk c hc => ?_) ?_
  · obtain ⟨j, hj, rfl⟩ := mem_intsF hk
    have g : prs[j]? = some (prs.getD j (("" : Str), 0)) := by
      rw [List.getD_eq_getElem?_getD, List.getElem?_eq_getElem hj]; rfl
    refine ⟨(prs.getD j (("" : Str), 0)).1, atI_nat (by rw [List.getElem?_map, g]; rfl), (prs.getD j (("" : Str), 0)).2, atI_nat (by rw [List.getElem?_map, g]; rfl), ?_⟩
    rw [Int.toNat_natCast] at hc
    exact hc
  · rw [List.nil_append]
    have e : (intsF 0 prs.length).map (fun k : Int => prs.getD k.toNat (("" : Str), 0)) = prs := by
      refine List.ext_getElem (by rw [List.length_map, intsF_len]) fun j h1 h2 => ?_
      rw [List.getElem_map]
      have e0 : (intsF 0 prs.length)[j]'(by rw [intsF_len]; exact h2) = (j : Int) := by
        unfold intsF
        rw [List.getElem_map, List.getElem_range]
        omega
      rw [e0, Int.toNat_natCast, List.getD_eq_getElem?_getD, List.getElem?_eq_getElem h2]
      rfl
    rw [e]
    exact h
theorem step_rows_ok {d : PlanD} (pk : PlanOk d) {Q : List SRow → Prop} {X : HE → Prop} (h : Q d.steps) : m_Plan_step_rows d Q X := by
  unfold m_Plan_step_rows
  show mapD (d.steps.map (·.1)) [] _ _
  rw [mapD_map]
  refine mapD_ok (fun r => r) (fun r hr k hk => ⟨_, pk.tkr hr, _, pk.gvr hr, hk⟩) ?_
  rw [List.nil_append, List.map_id']
  exact h
theorem dEq_self {α : Type} [DecidableEq α] {xs : List (Str × α)} (hn : (xs.map (·.1)).Nodup) : dEq xs xs = true := by
  unfold dEq
  rw [decide_eq_true rfl, Bool.true_and, List.all_eq_true]
  intro p hp
  exact decide_eq_true (getR_nodup hn hp)
theorem eq_self {d : PlanD} (pk : PlanOk d) {Q : Bool → Prop} {X : HE → Prop} (h : Q true) : m_Plan___eq__ d d Q X := by
  unfold m_Plan___eq__
  refine ifD_f rfl (ifD_f (by rw [decide_eq_true rfl, decide_eq_true rfl]; rfl) ?_)
  rw [decide_eq_true rfl, dEq_self (by rw [PlanOk.tkn]; exact pk.sn), dEq_self (by rw [PlanOk.gvn]; exact pk.sn)]
  exact h
theorem inOrd_congr' {ps a t : List Str} (h : ∀ y, (y ∈ a ↔ y ∈ t)) : inOrd ps a = inOrd ps t := by
  unfold inOrd
  exact List.filter_congr fun y _ => by
    by_cases q : y ∈ a
    · rw [decide_eq_true q, decide_eq_true ((h y).mp q)]
    · rw [decide_eq_false q, decide_eq_false fun z => q ((h y).mpr z)]
end

/-! ## plan0w -/
def spLaw (K : PySem.W.Frag) : Sp := fun vs H Q _ => ∃ (a : Addr) (ns : List Int), vs = [.ref a] ∧ SqL K H a (ns.map V.int) ∧ ns.length ≤ 63 ∧ ∀ H', Q (.bl true) H'

/-! ## k61 -/
section
variable {P : Program} {w : World} {K : PySem.W.Frag} {mg : Str → Option Value} {base : Heap}
abbrev s_place_line : Stmt := topS 24
theorem sc_place_line : FnScope ["word", "number"] ["word", "number"] (defScope s_place_line) := ⟨rfl, rfl, rfl, by decide +kernel, rfl, by decide +kernel, by decide +kernel⟩
def m_place_line (p_word : Str) (p_number : Int) : DM Str := fun Q X =>
  (Str.empty).length + (("place " : Str)).length ≤ big ∧
  ((Str.empty ++ ("place " : Str))).length + (p_word).length ≤ big ∧
  (((Str.empty ++ ("place " : Str)) ++ p_word)).length + ((" " : Str)).length ≤ big ∧
  CStr p_number ∧
  ((((Str.empty ++ ("place " : Str)) ++ p_word) ++ (" " : Str))).length + ((numS p_number)).length ≤ big ∧
  (((((Str.empty ++ ("place " : Str)) ++ p_word) ++ (" " : Str)) ++ (numS p_number))).length ≤ big ∧
  Q ((((Str.empty ++ ("place " : Str)) ++ p_word) ++ (" " : Str)) ++ (numS p_number))
theorem ok_place_line {k : Nat} {cs : EK → Addr} (B : Bl mg) 
    (F : Src K mg "place_line" s_place_line ["word", "number"]) : Def P w K mg base CX0 (k + 1) "place_line" ["word", "number"] (spA (preW (erW cs) (fun x : Str × Int => [iz yS x.1, iz zI x.2]) yS (fun x => m_place_line x.1 x.2))) := by
  refine F.okW sc_place_line (fun _ => rfl) (fun f cdv A outer s H E x Q X hr h => ⟨_, (pss_one (ps_ret (pe_joined (.cons pe_str (.cons (pe_fmt (pv 0)) (.cons pe_str (.cons (pe_fmt (pv 1)) .nil))))))), fun fr Qv hret => ?_⟩)
  obtain ⟨p_word, p_number⟩ := x
  replace h : m_place_line p_word p_number Q X := h
  unfold m_place_line at h
  refine kn_ret (we_fs (wj_cons (we_cSy (z := "place ") (asc_of (by decide)) (by decide) ?_)))
  obtain ⟨g1, h⟩ := h
  refine ⟨_, rfl, g1, wj_cons (we_fmtS (we_var rfl (⟨_, rfl, ?_⟩)))⟩
  obtain ⟨g2, h⟩ := h
  refine ⟨_, rfl, g2, wj_cons (we_cSy (z := " ") (asc_of (by decide)) (by decide) ?_)⟩
  obtain ⟨g3, h⟩ := h
  refine ⟨_, rfl, g3, wj_cons (we_fmtI (we_var rfl ?_))⟩
  obtain ⟨g4, h⟩ := h
  refine ⟨_, rfl, g4, ?_⟩
  obtain ⟨g5, h⟩ := h
  refine ⟨_, rfl, g5, ?_⟩
  obtain ⟨g6, h⟩ := h
  refine wj_nil (⟨g6, ?_⟩)
  exact hret _ h _
abbrev s_step_line : Stmt := topS 25
theorem sc_step_line : FnScope ["step", "takes", "gives"] ["step", "takes", "gives"] (defScope s_step_line) := ⟨rfl, rfl, rfl, by decide +kernel, rfl, by decide +kernel, by decide +kernel⟩
def m_step_line (p_step : Str) (p_takes : (List Str)) (p_gives : (List Str)) : DM Str := fun Q X =>
  (p_step).length + ((":" : Str)).length ≤ big ∧
  ((("step" : Str) :: ((p_step ++ (":" : Str)) :: (p_takes ++ (("->" : Str) :: (p_gives ++ [])))))).length ≤ 1000 ∧
  (((("step" : Str) :: ((p_step ++ (":" : Str)) :: (p_takes ++ (("->" : Str) :: (p_gives ++ [])))))).map (·.length)).sum + ((("step" : Str) :: ((p_step ++ (":" : Str)) :: (p_takes ++ (("->" : Str) :: (p_gives ++ [])))))).length * ((" " : Str)).length ≤ big ∧
  Q (Txt.join (" " : Str) (("step" : Str) :: ((p_step ++ (":" : Str)) :: (p_takes ++ (("->" : Str) :: (p_gives ++ []))))))
theorem ok_step_line {k : Nat} {cs : EK → Addr} (B : Bl mg) 
    (F : Src K mg "step_line" s_step_line ["step", "takes", "gives"]) : Def P w K mg base CX0 (k + 1) "step_line" ["step", "takes", "gives"] (spA (preW (erW cs) (fun x : Str × (List Str) × (List Str) => [iz yS x.1, iz (yL yS) x.2.1, iz (yL yS) x.2.2]) yS (fun x => m_step_line x.1 x.2.1 x.2.2))) := by
  refine F.okW sc_step_line (fun _ => rfl) (fun f cdv A outer s H E x Q X hr h => ⟨_, (pss_one (ps_ret (pe_bm PySem.F.plainAttrs_str PySem.F.slot_str_join PySem.F.type_str_join mt_join pe_str (pa_cons (pe_lst (pa_cons pe_str (pa_cons (pe_op op_add_str (pv 0) pe_str) (StX.pa_star (pv 1) (pa_cons pe_str (StX.pa_star (pv 2) pa_nil)))))) pa_nil)))), fun fr Qv hret => ?_⟩)
  obtain ⟨p_step, p_takes, p_gives⟩ := x
  replace h : m_step_line p_step p_takes p_gives Q X := h
  unfold m_step_line at h
  refine kn_ret (we_bm (we_cSy (z := " ") (asc_of (by decide)) (by decide) (⟨tyl_yS, wa_cons (we_lstY (r := yS) (wa_cons (we_cSy (z := "step") (asc_of (by decide)) (by decide) (wa_cons (we_op (we_var rfl (we_cSy (z := ":") (asc_of (by decide)) (by decide) ?_)))))))⟩)))
  obtain ⟨g1, h⟩ := h
  refine oy_addS g1 (wa_star (we_var rfl (⟨_, _, _, rfl, wa_cons (we_cSy (z := "->") (asc_of (by decide)) (by decide) (wa_star (we_var rfl (⟨_, _, _, rfl, wa_nil ?_⟩))))⟩)))
  obtain ⟨g2, h⟩ := h
  refine ⟨(("step" : Str) :: ((p_step ++ (":" : Str)) :: (p_takes ++ (("->" : Str) :: (p_gives ++ []))))), by simp only [List.map_cons, List.map_append, List.map_nil], g2, wa_nil ?_⟩
  obtain ⟨g3, h⟩ := h
  refine my_join g3 ?_
  exact hret _ h _
abbrev s_write_plan : Stmt := topS 26
theorem sc_write_plan : FnScope ["plan", "lines", "step", "takes", "gives", "word", "number"] ["plan"] (defScope s_write_plan) := ⟨rfl, rfl, rfl, by decide +kernel, rfl, by decide +kernel, by decide +kernel⟩
def m_write_plan (p_plan : PlanD) : DM Str := fun Q X =>
  m_Plan_place_rows p_plan (fun v4 =>
  mapD v4 [] (fun x1 k2 =>
  m_place_line x1.1 x1.2 (fun v7 =>
  k2 v7) noX) (fun ys3 =>
  m_Plan_step_rows p_plan (fun v10 =>
  forD v10 ys3 (fun x9 s8 nx bk =>
  m_step_line x9.1 x9.2.1 x9.2.2 (fun v12 =>
  (s8).length < big ∧
  nx (s8 ++ [v12])) noX) (fun s8 =>
  ((s8).map (·.length)).sum + (s8).length * (("\n" : Str)).length ≤ big ∧
  Q (Txt.join ("\n" : Str) s8))) noX)) noX
theorem ok_write_plan {k : Nat} {cs : EK → Addr} {C : Addr} (B : Bl mg) (T_Plan : PlanC K mg C) (D_place_line : Def P w K mg base CX0 k "place_line" ["word", "number"] (spA (preW (erW cs) (fun x : Str × Int => [iz yS x.1, iz zI x.2]) yS (fun x => m_place_line x.1 x.2)))) (D_step_line : Def P w K mg base CX0 k "step_line" ["step", "takes", "gives"] (spA (preW (erW cs) (fun x : Str × (List Str) × (List Str) => [iz yS x.1, iz (yL yS) x.2.1, iz (yL yS) x.2.2]) yS (fun x => m_step_line x.1 x.2.1 x.2.2)))) (DM_Plan_place_rows : DefM P w K mg base CX0 k C "place_rows" ["self"] (spA (preW (erW cs) (fun x : PlanD => [iz (zPlan C) x]) (yL (z2 yS zI)) (fun x => m_Plan_place_rows x)))) (DM_Plan_step_rows : DefM P w K mg base CX0 k C "step_rows" ["self"] (spA (preW (erW cs) (fun x : PlanD => [iz (zPlan C) x]) (yL (z3 yS (yL yS) (yL yS))) (fun x => m_Plan_step_rows x))))
    (F : Src K mg "write_plan" s_write_plan ["plan"]) : Def P w K mg base CX0 (k + 1) "write_plan" ["plan"] (spA (preW (erW cs) (fun x : PlanD => [iz (zPlan C) x]) yS (fun x => m_write_plan x))) := by
  refine F.okW sc_write_plan (fun _ => rfl) (fun f cdv A outer s H E p_plan Q X hr h => ⟨_, (pss_cons (ps_setLc (i := 1) (own := [("word", 5), ("number", 6)]) (by rfl) sc_write_plan.nd rfl rfl (sw_true rfl rfl rfl (by decide +kernel)) (kpi_list (K := K) (pe_metD0 DM_Plan_place_rows T_Plan.cl hr passAt0 (pv 0))) (blkOk_by (N := ["plan", "lines", "step", "takes", "gives", "word", "number"]) (sc := defScope s_write_plan) (by decide +kernel)) (fun _ _ _ _ _ => (kpg_tup (K := K) (n := 2) rfl (pgs_cons (pg_name (i := 5) sc_write_plan.nd rfl (Or.inl rfl)) (pgs_cons (pg_name (i := 6) sc_write_plan.nd rfl (Or.inl rfl)) pgs_nil)))) (fun _ _ _ _ _ => pts_nil) (fun _ _ _ _ _ => (pe_def D_place_line hr pass0 (pa_cons (pv 5) (pa_cons (pv 6) pa_nil)))))
 (pss_cons (ps_for PassesOwn.never rfl (kpi_list (K := K) (pe_metD0 DM_Plan_step_rows T_Plan.cl hr passAt0 (pv 0))) (kpg_tup (K := K) (n := 3) rfl (pgs_cons (pg_name (i := 2) sc_write_plan.nd rfl (Or.inl rfl)) (pgs_cons (pg_name (i := 3) sc_write_plan.nd rfl (Or.inl rfl)) (pgs_cons (pg_name (i := 4) sc_write_plan.nd rfl (Or.inl rfl)) pgs_nil)))) (pss_one (ps_expr (pe_bm PySem.F.plainAttrs_list PySem.F.slot_list_append PySem.F.type_list_append mt_append (pv 1) (pa_cons (pe_def D_step_line hr pass0 (pa_cons (pv 2) (pa_cons (pv 3) (pa_cons (pv 4) pa_nil)))) pa_nil)))))
 (pss_one (ps_ret (pe_bm PySem.F.plainAttrs_str PySem.F.slot_str_join PySem.F.type_str_join mt_join pe_str (pa_cons (pv 1) pa_nil)))))), fun fr Qv hret => ?_⟩)
  replace h : m_write_plan p_plan Q X := h
  unfold m_write_plan at h
  refine kn_seq (kn_asg (i := 1) (we_lcMN (r := (z2 yS zI)) (s := yS) (wi_yL (we_met (we_var rfl (⟨ins_plan rfl, wa_nil ?_⟩))))))
  refine sps_W0 p_plan h (fun v4 h => ?_)
  refine ⟨_, _, _, rfl, fun e5 => ⟨_, _, _, _, rfl, rfl, e5, fun _ => tg2 (by decide), h, fun x1 c k2 h => ?_, fun ys3 h eys3 a6 => ?_⟩⟩
  · refine we_callE (wa_cons (we_var rfl (wa_cons (we_var rfl (wa_nil ?_)))))
    refine sps_W0 (x1.1, x1.2) h (fun v7 h => ?_)
    exact ⟨rfl, _, rfl, h⟩
  try dsimp only
  refine kn_seq (kn_forW (r := (z3 yS (yL yS) (yL yS))) (S := (List Str)) (fun s8 => [some (iz (zPlan C) p_plan), some (zAt a6), none, none, none, none, none]) (fun s8 => [cY a6 yS s8]) ys3 (wi_yL (we_met (we_var rfl (⟨ins_plan rfl, wa_nil ?_⟩)))))
  refine sps_W0 p_plan h (fun v10 h => ?_)
  refine ⟨_, _, _, rfl, fun e11 => ⟨_, _, _, _, _, rfl, rfl, (by and_intros), fun _ _ => tg3 (by decide) (by decide) (by decide), h, fun fr' le x9 s8 nx M hnx hbk h => ?_, fun s8 h => ?_⟩⟩
  · have hret := hret.fine le
    refine kn_appY (i := 1) (j := 0) rfl rfl (we_callE (wa_cons (we_var rfl (wa_cons (we_var rfl (wa_cons (we_var rfl (wa_nil ?_))))))))
    refine sps_W0 (x9.1, x9.2.1, x9.2.2) h (fun v12 h => ?_)
    obtain ⟨g13, h⟩ := h
    refine ⟨_, rfl, rfl, g13, ?_⟩
    exact hnx (s8 ++ [v12]) _ _ h (by and_intros) rfl
  try dsimp only
  refine kn_frzY (i := 1) (j := 0) rfl rfl ?_
  refine kn_ret (we_bm (we_cSy (z := "\n") (asc_of (by decide)) (by decide) (⟨tyl_yS, wa_cons (we_var rfl (wa_nil ?_))⟩)))
  obtain ⟨g14, h⟩ := h
  refine my_join g14 ?_
  exact hret _ h _
abbrev s__law_mixed : Stmt := topS 31
theorem sc__law_mixed : FnScope ["_law_bag_here", "_law_rows", "_law_left", "_law_told", "_law_k"] ["_law_bag_here", "_law_rows"] (defScope s__law_mixed) := ⟨rfl, rfl, rfl, by decide +kernel, rfl, by decide +kernel, by decide +kernel⟩
def m__law_mixed (p_law_rows : (List Str)) : DM (List Str) := fun Q X =>
  forD (intsF 0 (((p_law_rows).length : Int)).toNat) (p_law_rows, []) (fun x4 s3 nx bk =>
  m_draw ((s3.1).length : Int) (fun v7 =>
  ∃ m8, ixN (s3.1).length v7 = some m8 ∧ ∃ x9, (s3.1)[m8]? = some x9 ∧
  (s3.2).length < big ∧
  nx (((s3.1).eraseIdx m8), (s3.2 ++ [x9]))) noX) (fun s3 =>
  Q s3.2)
theorem ok__law_mixed {k : Nat} {cs : EK → Addr} (B : Bl mg) (D__law_draw : Def P w K mg base CX0 k "_law_draw" ["_law_bag_here", "_law_many"] (spC (preK (cBag 4) (preBW (fun x : Int => [iz zI x]) zI m_draw))))
    (F : Src K mg "_law_mixed" s__law_mixed ["_law_bag_here", "_law_rows"]) : Def P w K mg base CX0 (k + 1) "_law_mixed" ["_law_bag_here", "_law_rows"] (spC (preK (cBag 4) (preBW (fun x : (List Str) => [iz (yL yS) x]) (yL yS) (fun x => m__law_mixed x)))) := by
  refine F.okKW (fun _ _ => rfl) sc__law_mixed (fun _ => rfl) (fun f cdv A outer s H E b l p_law_rows Q hr h => ⟨_, (pss_cons (ps_asg (pe_callTy (kcall_list (K := K)) (by rfl) B.list' (by decide +kernel) (pa_cons (pv 1) pa_nil)) (pg_name (i := 2) sc__law_mixed.nd rfl (Or.inl rfl)))
 (pss_cons (ps_asg (pe_lst pa_nil) (pg_name (i := 3) sc__law_mixed.nd rfl (Or.inl rfl)))
 (pss_cons (ps_for PassesOwn.never rfl (pi_range1 (by rfl) B.range (pa_cons (pe_callB (kcall_len (K := K)) (by rfl) B.len PySem.boot_len (pa_cons (pv 1) pa_nil)) pa_nil)) (pg_name (i := 4) sc__law_mixed.nd rfl (Or.inl rfl)) (pss_one (ps_expr (pe_bm PySem.F.plainAttrs_list PySem.F.slot_list_append PySem.F.type_list_append mt_append (pv 3) (pa_cons (pe_bm PySem.F.plainAttrs_list PySem.F.slot_list_pop PySem.F.type_list_pop mt_popAt (pv 2) (pa_cons (pe_def D__law_draw hr pass0 (pa_cons (pv 0) (pa_cons (pe_callB (kcall_len (K := K)) (by rfl) B.len PySem.boot_len (pa_cons (pv 2) pa_nil)) pa_nil))) pa_nil)) pa_nil)))))
 (pss_one (ps_ret (pv 3)))))), fun fr Qv hret => ?_⟩)
  replace h : m__law_mixed p_law_rows Q noX := h
  unfold m__law_mixed at h
  refine kn_seq (kn_asg (i := 2) (we_cb (wa_cons (we_var rfl (wa_nil (cy_listO sy_L (fun a1 => ?_)))))))
  try dsimp only
  refine kn_seq (kn_asg (i := 3) (we_ownY yS (wa_nil (⟨[], rfl, Nat.le_of_ble_eq_true rfl, fun a2 => ?_⟩))))
  try dsimp only
  refine kn_seq (kn_forW (r := zI) (S := (List Str) × (List Str)) (fun s3 => [some (zAt b), some (iz (yL yS) p_law_rows), some (zAt a1), some (zAt a2), none]) (fun s3 => [cY a2 yS s3.2, cY a1 yS s3.1, cBag 4 b l]) (p_law_rows, []) (wi_range (wa_cons (we_cb (wa_cons (we_var rfl (wa_nil (cy_len sy_L (fun e5 => (wa_nil (⟨_, rfl, (by have hb : big = 100000 := rfl; omega), (by have hb : big = 100000 := rfl; omega), ⟨_, _, _, _, _, rfl, rfl, (by and_intros), fun _ _ => tg_name, h, fun fr' le x4 s3 nx M hnx hbk h => ?_, fun s3 h => ?_⟩⟩)))))))))))
  · have hret := hret.fine le
    refine kn_appY (i := 3) (j := 0) rfl rfl (we_popY (i := 2) (j := 1) rfl rfl (we_callE (wa_cons (we_var rfl (wa_cons (we_cb (wa_cons (we_var rfl (wa_nil (cy_len (sy_C (j := 1) rfl) (fun e6 => (wa_nil ?_))))))))))))
    refine sps_KW (mk := cBag 4) (j := 2) rfl ((s3.1).length : Int) h (fun v7 h => ?_)
    obtain ⟨m8, em8, x9, ex9, h⟩ := h
    refine ⟨_, _, _, rfl, rfl, em8, ex9, ?_⟩
    obtain ⟨g10, h⟩ := h
    refine ⟨_, rfl, rfl, g10, ?_⟩
    exact hnx (((s3.1).eraseIdx m8), (s3.2 ++ [x9])) _ _ h (by and_intros) rfl
  try dsimp only
  refine kn_ret (we_var rfl ?_)
  exact rt_frzY (j := 0) rfl (hret _ h _ (List.mem_of_getElem? (i := 1) rfl))
abbrev s__law_plan : Stmt := topS 34
theorem sc__law_plan : FnScope ["_law_plan_here", "_law_rows", "_law_row"] ["_law_plan_here"] (defScope s__law_plan) := ⟨rfl, rfl, rfl, by decide +kernel, rfl, by decide +kernel, by decide +kernel⟩
def m__law_plan (p_law_plan_here : ((List (Str × Int)) × (List (Str × (List Str) × (List Str))))) : DM PlanD := fun Q X =>
  ∀ rows3, rows3 = ((p_law_plan_here.2).map fun x1 => (x1.1, x1.2.1, x1.2.2)) →
  mk_Plan ((p_law_plan_here.1).map fun x4 => (x4.1, x4.2)) rows3 (fun v6 =>
  Q v6) noX
theorem ok__law_plan {k : Nat} {cs : EK → Addr} {C : Addr} (B : Bl mg) (m_Plan : mg "Plan" = some (.ref C)) (DI_Plan : DefI P w K mg base (L2.CX P w) k C ["self", "places", "steps"] (spI C (preW (erW cs) (fun x : List (Str × Int) × List SRow => [iz yPR x.1, iz ySR x.2]) (zPlan C) (fun x => mk_Plan x.1 x.2))))
    (F : Src K mg "_law_plan" s__law_plan ["_law_plan_here"]) : Def P w K mg base CX0 (k + 2) "_law_plan" ["_law_plan_here"] (spA (preW (erW cs) (fun x : ((List (Str × Int)) × (List (Str × (List Str) × (List Str)))) => [iz (zLp (yL (zLp yS zI)) (yL (zL3 yS (yL yS) (yL yS)))) x]) (zPlan C) (fun x => m__law_plan x))) := by
  refine F.okW sc__law_plan (fun _ => rfl) (fun f cdv A outer s H E p_law_plan_here Q X hr h => ⟨_, (pss_cons (ps_setLc (i := 1) (own := [("_law_row", 2)]) (g := gName 2) (by rfl) sc__law_plan.nd rfl rfl (sw_true rfl rfl rfl (by decide +kernel)) (kpi_list (K := K) (pe_ix (kix_list (K := K)) (pv 0) pe_int (fun _ _ => rfl))) (blkOk_by (N := ["_law_plan_here", "_law_rows", "_law_row"]) (sc := defScope s__law_plan) (by decide +kernel)) (fun _ _ _ _ _ => (pg_name (i := 2) sc__law_plan.nd rfl (Or.inl rfl))) (fun _ _ _ _ _ => pts_nil) (fun _ _ _ _ _ => (pe_tup (pa_cons (pe_ix (kix_list (K := K)) (pv 2) pe_int (fun _ _ => rfl)) (pa_cons (pe_callTy (kcall_list (K := K)) (by rfl) B.list' (by decide +kernel) (pa_cons (pe_ix (kix_list (K := K)) (pv 2) pe_int (fun _ _ => rfl)) pa_nil)) (pa_cons (pe_callTy (kcall_list (K := K)) (by rfl) B.list' (by decide +kernel) (pa_cons (pe_ix (kix_list (K := K)) (pv 2) pe_int (fun _ _ => rfl)) pa_nil)) pa_nil))))))
 (pss_one (ps_ret (pe_mkD DI_Plan m_Plan hr (fun σ => Passes.at passL σ) (pa_cons (pe_lc (own := [("_law_row", 2)]) (g := gName 2) (by rfl) sc__law_plan.nd (kpi_list (K := K) (pe_ix (kix_list (K := K)) (pv 0) pe_int (fun _ _ => rfl))) (blkOk_by (N := ["_law_plan_here", "_law_rows", "_law_row"]) (sc := defScope s__law_plan) (by decide +kernel)) (fun _ _ _ _ _ => (pg_name (i := 2) sc__law_plan.nd rfl (Or.inl rfl))) (fun _ _ _ _ _ => pts_nil) (fun _ _ _ _ _ => (pe_tup (pa_cons (pe_ix (kix_list (K := K)) (pv 2) pe_int (fun _ _ => rfl)) (pa_cons (pe_ix (kix_list (K := K)) (pv 2) pe_int (fun _ _ => rfl)) pa_nil))))) (pa_cons (pv 1) pa_nil)))))), fun fr Qv hret => ?_⟩)
  replace h : m__law_plan p_law_plan_here Q X := h
  unfold m__law_plan at h
  refine kn_seq (kn_asgL (i := 1) (r := (yL (z3 yS (yL yS) (yL yS)))) (we_lcM0 (r := (zL3 yS (yL yS) (yL yS))) (s := (z3 yS (yL yS) (yL yS))) (wi_yL (we_op (we_var rfl (we_cI (oy_ixLp1 (⟨_, _, _, rfl, fun e2 => ⟨_, fun x1 => (x1.1, x1.2.1, x1.2.2), _, rfl, rfl, e2, fun x1 => tg_name, fun x1 c => we_tup (wa_cons (we_op (we_var rfl (we_cI (oy_ixL30 (wa_cons (we_cb (wa_cons (we_op (we_var rfl (we_cI (oy_ixL31 (wa_nil (cy_list sy_L (wa_cons (we_cb (wa_cons (we_op (we_var rfl (we_cI (oy_ixL32 (wa_nil (cy_list sy_L (wa_nil (⟨Nat.le_of_ble_eq_true rfl, iz (z3 yS (yL yS) (yL yS)) (x1.1, x1.2.1, x1.2.2), tr3, ⟨rfl, rfl⟩⟩))))))))))))))))))))))))), ⟨_, rfl, fun rows3 erows3 => ?_⟩⟩⟩))))))))
  have h := h rows3 erows3
  try dsimp only
  refine kn_ret (we_mkP (wa_cons (we_lcM0 (r := (zLp yS zI)) (s := (z2 yS zI)) (wi_yL (we_op (we_var rfl (we_cI (oy_ixLp0 (⟨_, _, _, rfl, fun e5 => ⟨_, fun x4 => (x4.1, x4.2), _, rfl, rfl, e5, fun x4 => tg_name, fun x4 c => we_tup (wa_cons (we_op (we_var rfl (we_cI (oy_ixLp0 (wa_cons (we_op (we_var rfl (we_cI (oy_ixLp1 (wa_nil (⟨Nat.le_of_ble_eq_true rfl, iz (z2 yS zI) (x4.1, x4.2), tr2, ⟨rfl, rfl⟩⟩)))))))))))), wa_cons (we_var rfl (wa_nil ?_))⟩⟩)))))))))
  refine mkW0 (((p_law_plan_here.1).map fun x4 => (x4.1, x4.2)), rows3) h (fun v6 h => ?_)
  exact hret _ h _
abbrev s__law_lines : Stmt := topS 35
theorem sc__law_lines : FnScope ["_law_plan_here", "_law_lines_here", "_law_row"] ["_law_plan_here"] (defScope s__law_lines) := ⟨rfl, rfl, rfl, by decide +kernel, rfl, by decide +kernel, by decide +kernel⟩
def m__law_lines (p_law_plan_here : ((List (Str × Int)) × (List (Str × (List Str) × (List Str))))) : DM (List Str) := fun Q X =>
  forD p_law_plan_here.1 ([]) (fun x3 s2 nx bk =>
  (("place " : Str)).length + (x3.1).length ≤ big ∧
  ((("place " : Str) ++ x3.1)).length + ((" " : Str)).length ≤ big ∧
  CStr x3.2 ∧
  (((("place " : Str) ++ x3.1) ++ (" " : Str))).length + ((numS x3.2)).length ≤ big ∧
  (s2).length < big ∧
  nx (s2 ++ [(((("place " : Str) ++ x3.1) ++ (" " : Str)) ++ (numS x3.2))])) (fun s2 =>
  forD p_law_plan_here.2 s2 (fun x11 s10 nx bk =>
  (x11.1).length + ((":" : Str)).length ≤ big ∧
  ([("step" : Str), (x11.1 ++ (":" : Str))]).length + (x11.2.1).length ≤ big ∧
  (([("step" : Str), (x11.1 ++ (":" : Str))] ++ x11.2.1)).length + ([("->" : Str)]).length ≤ big ∧
  ((([("step" : Str), (x11.1 ++ (":" : Str))] ++ x11.2.1) ++ [("->" : Str)])).length + (x11.2.2).length ≤ big ∧
  ((((([("step" : Str), (x11.1 ++ (":" : Str))] ++ x11.2.1) ++ [("->" : Str)]) ++ x11.2.2)).map (·.length)).sum + (((([("step" : Str), (x11.1 ++ (":" : Str))] ++ x11.2.1) ++ [("->" : Str)]) ++ x11.2.2)).length * ((" " : Str)).length ≤ big ∧
  (s10).length < big ∧
  nx (s10 ++ [(Txt.join (" " : Str) ((([("step" : Str), (x11.1 ++ (":" : Str))] ++ x11.2.1) ++ [("->" : Str)]) ++ x11.2.2))])) (fun s10 =>
  Q s10))
theorem ok__law_lines {k : Nat} {cs : EK → Addr} (B : Bl mg) 
    (F : Src K mg "_law_lines" s__law_lines ["_law_plan_here"]) : Def P w K mg base CX0 (k + 1) "_law_lines" ["_law_plan_here"] (spA (preW (erW cs) (fun x : ((List (Str × Int)) × (List (Str × (List Str) × (List Str)))) => [iz (zLp (yL (zLp yS zI)) (yL (zL3 yS (yL yS) (yL yS)))) x]) (yL yS) (fun x => m__law_lines x))) := by
  refine F.okW sc__law_lines (fun _ => rfl) (fun f cdv A outer s H E p_law_plan_here Q X hr h => ⟨_, (pss_cons (ps_asg (pe_lst pa_nil) (pg_name (i := 1) sc__law_lines.nd rfl (Or.inl rfl)))
 (pss_cons (ps_for PassesOwn.never rfl (kpi_list (K := K) (pe_ix (kix_list (K := K)) (pv 0) pe_int (fun _ _ => rfl))) (pg_name (i := 2) sc__law_lines.nd rfl (Or.inl rfl)) (pss_one (ps_expr (pe_bm PySem.F.plainAttrs_list PySem.F.slot_list_append PySem.F.type_list_append mt_append (pv 1) (pa_cons (pe_op op_add_str (pe_op op_add_str (pe_op op_add_str pe_str (pe_ix (kix_list (K := K)) (pv 2) pe_int (fun _ _ => rfl))) pe_str) (pe_callTy call_str_int (by rfl) B.str' (by decide +kernel) (pa_cons (pe_ix (kix_list (K := K)) (pv 2) pe_int (fun _ _ => rfl)) pa_nil))) pa_nil)))))
 (pss_cons (ps_for PassesOwn.never rfl (kpi_list (K := K) (pe_ix (kix_list (K := K)) (pv 0) pe_int (fun _ _ => rfl))) (pg_name (i := 2) sc__law_lines.nd rfl (Or.inl rfl)) (pss_one (ps_expr (pe_bm PySem.F.plainAttrs_list PySem.F.slot_list_append PySem.F.type_list_append mt_append (pv 1) (pa_cons (pe_bm PySem.F.plainAttrs_str PySem.F.slot_str_join PySem.F.type_str_join mt_join pe_str (pa_cons (pe_op op_cat (pe_op op_cat (pe_op op_cat (pe_lst (pa_cons pe_str (pa_cons (pe_op op_add_str (pe_ix (kix_list (K := K)) (pv 2) pe_int (fun _ _ => rfl)) pe_str) pa_nil))) (pe_ix (kix_list (K := K)) (pv 2) pe_int (fun _ _ => rfl))) (pe_lst (pa_cons pe_str pa_nil))) (pe_ix (kix_list (K := K)) (pv 2) pe_int (fun _ _ => rfl))) pa_nil)) pa_nil)))))
 (pss_one (ps_ret (pv 1)))))), fun fr Qv hret => ?_⟩)
  replace h : m__law_lines p_law_plan_here Q X := h
  unfold m__law_lines at h
  refine kn_seq (kn_asg (i := 1) (we_ownY yS (wa_nil (⟨[], rfl, Nat.le_of_ble_eq_true rfl, fun a1 => ?_⟩))))
  try dsimp only
  refine kn_seq (kn_forW (r := (zLp yS zI)) (S := (List Str)) (fun s2 => [some (iz (zLp (yL (zLp yS zI)) (yL (zL3 yS (yL yS) (yL yS)))) p_law_plan_here), some (zAt a1), none]) (fun s2 => [cY a1 yS s2]) ([]) (wi_yL (we_op (we_var rfl (we_cI (oy_ixLp0 (⟨_, _, _, rfl, fun e4 => ⟨_, _, _, _, _, rfl, rfl, (by and_intros), fun _ _ => tg_name, h, fun fr' le x3 s2 nx M hnx hbk h => ?_, fun s2 h => ?_⟩⟩)))))))
  · have hret := hret.fine le
    refine kn_appY (i := 1) (j := 0) rfl rfl (we_op (we_op (we_op (we_cSy (z := "place ") (asc_of (by decide)) (by decide) (we_op (we_var rfl (we_cI (oy_ixLp0 ?_))))))))
    obtain ⟨g5, h⟩ := h
    refine oy_addS g5 (we_cSy (z := " ") (asc_of (by decide)) (by decide) ?_)
    obtain ⟨g6, h⟩ := h
    refine oy_addS g6 (we_cb (wa_cons (we_op (we_var rfl (we_cI (oy_ixLp1 (wa_nil ?_)))))))
    obtain ⟨g7, h⟩ := h
    refine cy_str g7 ?_
    obtain ⟨g8, h⟩ := h
    refine oy_addS g8 ?_
    obtain ⟨g9, h⟩ := h
    refine ⟨_, rfl, rfl, g9, ?_⟩
    exact hnx (s2 ++ [(((("place " : Str) ++ x3.1) ++ (" " : Str)) ++ (numS x3.2))]) _ _ h (by and_intros) rfl
  try dsimp only
  refine kn_seq (kn_forW (r := (zL3 yS (yL yS) (yL yS))) (S := (List Str)) (fun s10 => [some (iz (zLp (yL (zLp yS zI)) (yL (zL3 yS (yL yS) (yL yS)))) p_law_plan_here), some (zAt a1), none]) (fun s10 => [cY a1 yS s10]) s2 (wi_yL (we_op (we_var rfl (we_cI (oy_ixLp1 (⟨_, _, _, rfl, fun e12 => ⟨_, _, _, _, _, rfl, rfl, (by and_intros), fun _ _ => tg_name, h, fun fr' le x11 s10 nx M hnx hbk h => ?_, fun s10 h => ?_⟩⟩)))))))
  · have hret := hret.fine le
    refine kn_appY (i := 1) (j := 0) rfl rfl (we_bm (we_cSy (z := " ") (asc_of (by decide)) (by decide) (⟨tyl_yS, wa_cons (we_op (we_op (we_op (we_lstY (r := yS) (wa_cons (we_cSy (z := "step") (asc_of (by decide)) (by decide) (wa_cons (we_op (we_op (we_var rfl (we_cI (oy_ixL30 (we_cSy (z := ":") (asc_of (by decide)) (by decide) ?_)))))))))))))⟩)))
    obtain ⟨g13, h⟩ := h
    refine oy_addS g13 (wa_nil (⟨[("step" : Str), (x11.1 ++ (":" : Str))], rfl, Nat.le_of_ble_eq_true rfl, we_op (we_var rfl (we_cI (oy_ixL31 ?_)))⟩))
    obtain ⟨g14, h⟩ := h
    refine oy_cat g14 (we_lstY (r := yS) (wa_cons (we_cSy (z := "->") (asc_of (by decide)) (by decide) (wa_nil (⟨[("->" : Str)], rfl, Nat.le_of_ble_eq_true rfl, ?_⟩)))))
    obtain ⟨g15, h⟩ := h
    refine oy_cat g15 (we_op (we_var rfl (we_cI (oy_ixL32 ?_))))
    obtain ⟨g16, h⟩ := h
    refine oy_cat g16 (wa_nil ?_)
    obtain ⟨g17, h⟩ := h
    refine my_join g17 ?_
    obtain ⟨g18, h⟩ := h
    refine ⟨_, rfl, rfl, g18, ?_⟩
    exact hnx (s10 ++ [(Txt.join (" " : Str) ((([("step" : Str), (x11.1 ++ (":" : Str))] ++ x11.2.1) ++ [("->" : Str)]) ++ x11.2.2))]) _ _ h (by and_intros) rfl
  try dsimp only
  refine kn_ret (we_var rfl ?_)
  exact rt_frzY (j := 0) rfl (hret _ h _)
abbrev s__law_orderly : Stmt := topS 36
theorem sc__law_orderly : FnScope ["_law_plan_here", "_law_words", "_law_steps", "_law_row", "_law_taken", "_law_word_here"] ["_law_plan_here"] (defScope s__law_orderly) := ⟨rfl, rfl, rfl, by decide +kernel, rfl, by decide +kernel, by decide +kernel⟩
def m__law_orderly (p_law_plan_here : ((List (Str × Int)) × (List (Str × (List Str) × (List Str))))) : DM ((List (Str × Int)) × (List (Str × (List Str) × (List Str)))) := fun Q X =>
  ∀ words3, words3 = ((p_law_plan_here.1).map fun x1 => x1.1) →
  forD p_law_plan_here.2 ([]) (fun x6 s5 nx bk =>
  ∀ taken10, taken10 = ((words3).filter fun x8 => (decide (x8 ∈ x6.2.1))).map (fun x8 => x8) →
  (s5).length < big ∧
  nx (s5 ++ [(x6.1, taken10, ((words3).filter fun x11 => (decide (x11 ∈ x6.2.2))).map (fun x11 => x11))])) (fun s5 =>
  Q (p_law_plan_here.1, s5))
theorem ok__law_orderly {k : Nat} {cs : EK → Addr} (B : Bl mg) 
    (F : Src K mg "_law_orderly" s__law_orderly ["_law_plan_here"]) : Def P w K mg base CX0 (k + 1) "_law_orderly" ["_law_plan_here"] (spA (preW (erW cs) (fun x : ((List (Str × Int)) × (List (Str × (List Str) × (List Str)))) => [iz (zLp (yL (zLp yS zI)) (yL (zL3 yS (yL yS) (yL yS)))) x]) (zLp (yL (zLp yS zI)) (yL (zL3 yS (yL yS) (yL yS)))) (fun x => m__law_orderly x))) := by
  refine F.okW sc__law_orderly (fun _ => rfl) (fun f cdv A outer s H E p_law_plan_here Q X hr h => ⟨_, (pss_cons (ps_setLc (i := 1) (own := [("_law_row", 3)]) (g := gName 3) (by rfl) sc__law_orderly.nd rfl rfl (sw_true rfl rfl rfl (by decide +kernel)) (kpi_list (K := K) (pe_ix (kix_list (K := K)) (pv 0) pe_int (fun _ _ => rfl))) (blkOk_by (N := ["_law_plan_here", "_law_words", "_law_steps", "_law_row", "_law_taken", "_law_word_here"]) (sc := defScope s__law_orderly) (by decide +kernel)) (fun _ _ _ _ _ => (pg_name (i := 3) sc__law_orderly.nd rfl (Or.inl rfl))) (fun _ _ _ _ _ => pts_nil) (fun _ _ _ _ _ => (pe_ix (kix_list (K := K)) (pv 3) pe_int (fun _ _ => rfl))))
 (pss_cons (ps_asg (pe_lst pa_nil) (pg_name (i := 2) sc__law_orderly.nd rfl (Or.inl rfl)))
 (pss_cons (ps_for PassesOwn.never rfl (kpi_list (K := K) (pe_ix (kix_list (K := K)) (pv 0) pe_int (fun _ _ => rfl))) (pg_name (i := 3) sc__law_orderly.nd rfl (Or.inr rfl)) (pss_cons (ps_setLc (i := 4) (own := [("_law_word_here", 5)]) (g := gName 5) (by rfl) sc__law_orderly.nd rfl rfl (sw_true rfl rfl rfl (by decide +kernel)) (kpi_list (K := K) (pv 1)) (blkOk_by (N := ["_law_plan_here", "_law_words", "_law_steps", "_law_row", "_law_taken", "_law_word_here"]) (sc := defScope s__law_orderly) (by decide +kernel)) (fun _ _ _ _ _ => (pg_name (i := 5) sc__law_orderly.nd rfl (Or.inl rfl))) (fun _ _ _ _ _ => pts_one (pt_cmpR (kop_in (K := K)) (pv 5) (pe_ix (kix_list (K := K)) (pv 3) pe_int (fun _ _ => rfl)) rfl)) (fun _ _ _ _ _ => (pv 5)))
 (pss_one (ps_expr (pe_bm PySem.F.plainAttrs_list PySem.F.slot_list_append PySem.F.type_list_append mt_append (pv 2) (pa_cons (pe_lst (pa_cons (pe_ix (kix_list (K := K)) (pv 3) pe_int (fun _ _ => rfl)) (pa_cons (pv 4) (pa_cons (pe_lc (own := [("_law_word_here", 5)]) (g := gName 5) (by rfl) sc__law_orderly.nd (kpi_list (K := K) (pv 1)) (blkOk_by (N := ["_law_plan_here", "_law_words", "_law_steps", "_law_row", "_law_taken", "_law_word_here"]) (sc := defScope s__law_orderly) (by decide +kernel)) (fun _ _ _ _ _ => (pg_name (i := 5) sc__law_orderly.nd rfl (Or.inl rfl))) (fun _ _ _ _ _ => pts_one (pt_cmpR (kop_in (K := K)) (pv 5) (pe_ix (kix_list (K := K)) (pv 3) pe_int (fun _ _ => rfl)) rfl)) (fun _ _ _ _ _ => (pv 5))) pa_nil)))) pa_nil))))))
 (pss_one (ps_ret (pe_lst (pa_cons (pe_ix (kix_list (K := K)) (pv 0) pe_int (fun _ _ => rfl)) (pa_cons (pv 2) pa_nil)))))))), fun fr Qv hret => ?_⟩)
  replace h : m__law_orderly p_law_plan_here Q X := h
  unfold m__law_orderly at h
  refine kn_seq (kn_asgL (i := 1) (r := (yL yS)) (we_lcM0 (r := (zLp yS zI)) (s := yS) (wi_yL (we_op (we_var rfl (we_cI (oy_ixLp0 (⟨_, _, _, rfl, fun e2 => ⟨_, fun x1 => x1.1, _, rfl, rfl, e2, fun x1 => tg_name, fun x1 c => we_op (we_var rfl (we_cI (oy_ixLp0 (⟨rfl, rfl⟩)))), ⟨_, rfl, fun words3 ewords3 => ?_⟩⟩⟩))))))))
  have h := h words3 ewords3
  try dsimp only
  refine kn_seq (kn_asg (i := 2) (we_ownY (zL3 yS (yL yS) (yL yS)) (wa_nil (⟨[], rfl, Nat.le_of_ble_eq_true rfl, fun a4 => ?_⟩))))
  try dsimp only
  refine kn_seq (kn_forW (r := (zL3 yS (yL yS) (yL yS))) (S := (List (Str × (List Str) × (List Str)))) (fun s5 => [some (iz (zLp (yL (zLp yS zI)) (yL (zL3 yS (yL yS) (yL yS)))) p_law_plan_here), some (iz (yL yS) words3), some (zAt a4), none, none, none]) (fun s5 => [cY a4 (zL3 yS (yL yS) (yL yS)) s5]) ([]) (wi_yL (we_op (we_var rfl (we_cI (oy_ixLp1 (⟨_, _, _, rfl, fun e7 => ⟨_, _, _, _, _, rfl, rfl, (by and_intros), fun _ _ => tg_name, h, fun fr' le x6 s5 nx M hnx hbk h => ?_, fun s5 h => ?_⟩⟩)))))))
  · have hret := hret.fine le
    refine kn_seq (kn_asgL (i := 4) (r := (yL yS)) (we_lcP (r := yS) (s := yS) (wi_yL (we_var rfl (⟨_, _, _, rfl, fun e9 => ⟨_, fun x8 => (decide (x8 ∈ x6.2.1)), fun x8 => x8, _, rfl, rfl, e9, fun x8 => tg_name, fun x8 c => wt_test (we_op (we_var rfl (we_op (we_var rfl (we_cI (oy_ixL31 (oy_inS sy_L (⟨_, rfl, ⟨rfl, rfl⟩⟩)))))))), fun x8 c => we_var rfl (⟨rfl, rfl⟩), ⟨_, rfl, fun taken10 etaken10 => ?_⟩⟩⟩)))))
    have h := h taken10 etaken10
    try dsimp only
    refine kn_appY (i := 2) (j := 0) rfl rfl (we_lst3 (r := yS) (s := (yL yS)) (o := (yL yS)) (wa_cons (we_op (we_var rfl (we_cI (oy_ixL30 (wa_cons (we_var rfl (wa_cons (we_lcP (r := yS) (s := yS) (wi_yL (we_var rfl (⟨_, _, _, rfl, fun e12 => ⟨_, fun x11 => (decide (x11 ∈ x6.2.2)), fun x11 => x11, _, rfl, rfl, e12, fun x11 => tg_name, fun x11 c => wt_test (we_op (we_var rfl (we_op (we_var rfl (we_cI (oy_ixL32 (oy_inS sy_L (⟨_, rfl, ⟨rfl, rfl⟩⟩)))))))), fun x11 c => we_var rfl (⟨rfl, rfl⟩), wa_nil (⟨_, _, _, rfl, ?_⟩)⟩⟩)))))))))))))
    obtain ⟨g13, h⟩ := h
    refine ⟨_, rfl, rfl, g13, ?_⟩
    exact hnx (s5 ++ [(x6.1, taken10, ((words3).filter fun x11 => (decide (x11 ∈ x6.2.2))).map (fun x11 => x11))]) _ _ h (by and_intros) rfl
  try dsimp only
  refine kn_frzY (i := 2) (j := 0) rfl rfl ?_
  refine kn_ret (we_lstp (r := (yL (zLp yS zI))) (s := (yL (zL3 yS (yL yS) (yL yS)))) (wa_cons (we_op (we_var rfl (we_cI (oy_ixLp0 (wa_cons (we_var rfl (wa_nil (⟨_, _, rfl, ?_⟩))))))))))
  exact hret _ h _
abbrev s_law : Stmt := topS 37
theorem sc_law : FnScope ["_law_script", "_law_bag_here", "_law_plan_here", "_law_turned", "_law_made", "_law_told", "_law_row"] ["_law_script"] (defScope s_law) := ⟨rfl, rfl, rfl, by decide +kernel, rfl, by decide +kernel, by decide +kernel⟩
def m_law  : DM Bool := fun Q X =>
  m_draw (13 : Int) (fun v1 =>
  m_draw (17 : Int) (fun v2 =>
  m__law_any ([v1, v2]) (100 : Int) (fun v3 =>
  mapD v3.2 [] (fun x4 k5 =>
  m__law_mixed x4.2.1 (fun v9 =>
  m__law_mixed x4.2.2 (fun v10 =>
  k5 (x4.1, v9, v10)) noX) noX) (fun ys6 =>
  ∀ turned11, turned11 = (v3.1, ys6) →
  m__law_plan turned11 (fun v12 =>
  m_write_plan v12 (fun v13 =>
  orD (!true) (fun k15 => m__law_orderly v3 (fun v16 =>
  m__law_lines v16 (fun v17 =>
  ((v17).map (·.length)).sum + (v17).length * (("\n" : Str)).length ≤ big ∧
  k15 (!decide (v13 = (Txt.join ("\n" : Str) v17)))) noX) noX) (fun c14 =>
  ifD c14 (
  Q false) (
  m__law_plan v3 (fun v19 =>
  m_Plan___eq__ v12 v19 (fun v20 =>
  andD v20 (fun k22 => m_write_plan v12 (fun v23 =>
  k22 (decide (v23 = v13))) noX) (fun c21 =>
  Q c21)) noX) noX))) noX) noX)) noX) noX) noX
theorem ok_law {k : Nat} {cs : EK → Addr} {C : Addr} (B : Bl mg) (D__law_any : Def P w K mg base CX0 (k + 1) "_law_any" ["_law_bag_here", "_law_most", "_law_reach"] (spC (preK (cBag 4) (preBW (fun x : (List Int) × Int => [iz (yL zI) x.1, iz zI x.2]) (zLp (yL (zLp yS zI)) (yL (zL3 yS (yL yS) (yL yS)))) (fun x => m__law_any x.1 x.2))))) (D__law_draw : Def P w K mg base CX0 (k + 1) "_law_draw" ["_law_bag_here", "_law_many"] (spC (preK (cBag 4) (preBW (fun x : Int => [iz zI x]) zI m_draw)))) (D__law_mixed : Def P w K mg base CX0 (k + 1) "_law_mixed" ["_law_bag_here", "_law_rows"] (spC (preK (cBag 4) (preBW (fun x : (List Str) => [iz (yL yS) x]) (yL yS) (fun x => m__law_mixed x))))) (D__law_plan : Def P w K mg base CX0 (k + 1) "_law_plan" ["_law_plan_here"] (spA (preW (erW cs) (fun x : ((List (Str × Int)) × (List (Str × (List Str) × (List Str)))) => [iz (zLp (yL (zLp yS zI)) (yL (zL3 yS (yL yS) (yL yS)))) x]) (zPlan C) (fun x => m__law_plan x)))) (D_write_plan : Def P w K mg base CX0 (k + 1) "write_plan" ["plan"] (spA (preW (erW cs) (fun x : PlanD => [iz (zPlan C) x]) yS (fun x => m_write_plan x)))) (D__law_lines : Def P w K mg base CX0 (k + 1) "_law_lines" ["_law_plan_here"] (spA (preW (erW cs) (fun x : ((List (Str × Int)) × (List (Str × (List Str) × (List Str)))) => [iz (zLp (yL (zLp yS zI)) (yL (zL3 yS (yL yS) (yL yS)))) x]) (yL yS) (fun x => m__law_lines x)))) (D__law_orderly : Def P w K mg base CX0 (k + 1) "_law_orderly" ["_law_plan_here"] (spA (preW (erW cs) (fun x : ((List (Str × Int)) × (List (Str × (List Str) × (List Str)))) => [iz (zLp (yL (zLp yS zI)) (yL (zL3 yS (yL yS) (yL yS)))) x]) (zLp (yL (zLp yS zI)) (yL (zL3 yS (yL yS) (yL yS)))) (fun x => m__law_orderly x)))) (DM_Plan___eq__ : DefM P w K mg base CX0 (k + 1) C "__eq__" ["self", "other"] (spA (preW (erW cs) (fun x : PlanD × PlanD => [iz (zPlan C) x.1, iz (zPlan C) x.2]) zB (fun x => m_Plan___eq__ x.1 x.2)))) (D__law_bag : Def P w K mg base CX0 (k + 1) "_law_bag" ["_law_script"] (spN (preBag K 4)))
    {f : Addr} {fd : FuncData} (F : Fun K "law" "law" s_law f fd) (hm : m_law (· = true) noX) : FnOk P w K mg base CX0 (k + 2) f fd ["_law_script"] (spLaw K) := by
  refine F.ok sc_law (fun vs H Q E h => ?_) (fun cdv A outer s H vs Q E hr h => ?_)
  · obtain ⟨a, ns, rfl, _⟩ := h
    rfl
  obtain ⟨a, ns, rfl, hS, hlen, q⟩ := h
  refine ⟨_, (pss_cons (ps_asg (pe_def D__law_bag hr pass0 (pa_cons (pv 0) pa_nil)) (pg_name (i := 1) sc_law.nd rfl (Or.inr rfl)))
 (pss_cons (ps_asg (pe_def D__law_any hr pass0 (pa_cons (pv 1) (pa_cons (pe_lst (pa_cons (pe_def D__law_draw hr pass0 (pa_cons (pv 1) (pa_cons pe_int pa_nil))) (pa_cons (pe_def D__law_draw hr pass0 (pa_cons (pv 1) (pa_cons pe_int pa_nil))) pa_nil))) (pa_cons pe_int pa_nil)))) (pg_name (i := 2) sc_law.nd rfl (Or.inl rfl)))
 (pss_cons (ps_asg (pe_lst (pa_cons (pe_ix (kix_list (K := K)) (pv 2) pe_int (fun _ _ => rfl)) (pa_cons (pe_lc (own := [("_law_row", 6)]) (g := gName 6) (by rfl) sc_law.nd (kpi_list (K := K) (pe_ix (kix_list (K := K)) (pv 2) pe_int (fun _ _ => rfl))) (blkOk_by (N := ["_law_script", "_law_bag_here", "_law_plan_here", "_law_turned", "_law_made", "_law_told", "_law_row"]) (sc := defScope s_law) (by decide +kernel)) (fun _ _ _ _ _ => (pg_name (i := 6) sc_law.nd rfl (Or.inl rfl))) (fun _ _ _ _ _ => pts_nil) (fun _ _ _ _ _ => (pe_lst (pa_cons (pe_ix (kix_list (K := K)) (pv 6) pe_int (fun _ _ => rfl)) (pa_cons (pe_def D__law_mixed hr pass0 (pa_cons (pv 1) (pa_cons (pe_ix (kix_list (K := K)) (pv 6) pe_int (fun _ _ => rfl)) pa_nil))) (pa_cons (pe_def D__law_mixed hr pass0 (pa_cons (pv 1) (pa_cons (pe_ix (kix_list (K := K)) (pv 6) pe_int (fun _ _ => rfl)) pa_nil))) pa_nil)))))) pa_nil))) (pg_name (i := 3) sc_law.nd rfl (Or.inl rfl)))
 (pss_cons (ps_asg (pe_def D__law_plan hr pass0 (pa_cons (pv 3) pa_nil)) (pg_name (i := 4) sc_law.nd rfl (Or.inl rfl)))
 (pss_cons (ps_asg (pe_def D_write_plan hr pass0 (pa_cons (pv 4) pa_nil)) (pg_name (i := 5) sc_law.nd rfl (Or.inl rfl)))
 (pss_cons (ps_if (PW.pt (pw_or (pt_not (pt_val (pe_callB (kcall_isi (K := K)) (by rfl) B.isinstance (by decide +kernel) (pa_cons (pv 5) (pa_cons (pe_bltn (v := .ty "str") (by rfl) B.str' (by decide +kernel) rfl) pa_nil))))) (pw_or1 (pt_cmpR op_ne (pv 5) (pe_bm PySem.F.plainAttrs_str PySem.F.slot_str_join PySem.F.type_str_join mt_join pe_str (pa_cons (pe_def D__law_lines hr pass0 (pa_cons (pe_def D__law_orderly hr pass0 (pa_cons (pv 2) pa_nil)) pa_nil)) pa_nil)) (nomark _))))) (pss_one (ps_ret pe_bl)) pss_nil)
 (pss_one (ps_ret (pe_and (pe_cmp (pc_eqO DM_Plan___eq__ (Nat.lt_of_succ_lt (hu_of hr)) hr passAt0 (pv 4) (pe_def D__law_plan hr pass0 (pa_cons (pv 2) pa_nil))) (nomark _)) (pe_one (pe_cmpR op_eq (pe_def D_write_plan hr pass0 (pa_cons (pv 4) pa_nil)) (pv 5) (nomark _)))))))))))), ?_⟩
  have hret : ∀ {fr : L2.Fr} {Θ : List Cel} (c : Bool), c = true → Rt fr Θ Q (iz zB c) := fun {fr Θ} c hc v F' H' ok hv => by
    subst hc
    have hv : v = .bl true := hv
    subst hv
    exact q H'
  refine (?_ : ∀ fr, Kn fr (L2.envOf _ [iz (zScr K) ns]) [] _) ⟨H, H, []⟩ _ H H (OkF.start (Same.refl H)) (env_start (.cons ⟨a, rfl, hS, hlen⟩ .nil))
  intro fr
  refine kn_seq (kn_asg (we_callE (wa_cons (we_var rfl (wa_nil ?_)))))
  refine sps_N ⟨ns, rfl, rfl, rfl⟩ (fun p Θn ⟨b, l, e1, e2⟩ => ?_) (fun e he => he.elim)
  subst e1 e2
  try dsimp only
  have h := hm
  unfold m_law at h
  refine kn_seq (kn_asg (i := 2) (we_callE (wa_cons (we_var rfl (wa_cons (we_lstY (r := zI) (wa_cons (we_callE (wa_cons (we_var rfl (wa_cons (we_cI (wa_nil ?_)))))))))))))
  refine sps_KW (mk := cBag 4) (j := 0) rfl (13 : Int) h (fun v1 h => ?_)
  refine wa_cons (we_callE (wa_cons (we_var rfl (wa_cons (we_cI (wa_nil ?_))))))
  refine sps_KW (mk := cBag 4) (j := 0) rfl (17 : Int) h (fun v2 h => ?_)
  refine wa_nil (⟨[v1, v2], rfl, Nat.le_of_ble_eq_true rfl, wa_cons (we_cI (wa_nil ?_))⟩)
  refine sps_KW (mk := cBag 4) (j := 0) rfl ([v1, v2], (100 : Int)) h (fun v3 h => ?_)
  try dsimp only
  refine kn_seq (kn_asgL (i := 3) (r := (zLp (yL (zLp yS zI)) (yL (zL3 yS (yL yS) (yL yS))))) (we_lstp (r := (yL (zLp yS zI))) (s := (yL (zL3 yS (yL yS) (yL yS)))) (wa_cons (we_op (we_var rfl (we_cI (oy_ixLp0 (wa_cons (we_lcM (r := (zL3 yS (yL yS) (yL yS))) (s := (zL3 yS (yL yS) (yL yS))) (wi_yL (we_op (we_var rfl (we_cI (oy_ixLp1 (⟨_, _, _, rfl, fun e7 => ⟨_, _, _, _, rfl, rfl, e7, fun _ => tg_name, h, fun x4 c k5 h => ?_, fun ys6 h eys6 => ?_⟩⟩)))))))))))))))
  · refine we_lst3 (r := yS) (s := (yL yS)) (o := (yL yS)) (wa_cons (we_op (we_var rfl (we_cI (oy_ixL30 (wa_cons (we_callE (wa_cons (we_var rfl (wa_cons (we_op (we_var rfl (we_cI (oy_ixL31 (wa_nil ?_)))))))))))))))
    refine sps_KW (mk := cBag 4) (j := 1) rfl x4.2.1 h (fun v9 h => ?_)
    refine wa_cons (we_callE (wa_cons (we_var rfl (wa_cons (we_op (we_var rfl (we_cI (oy_ixL32 (wa_nil ?_)))))))))
    refine sps_KW (mk := cBag 4) (j := 1) rfl x4.2.2 h (fun v10 h => ?_)
    refine wa_nil (⟨_, _, _, rfl, ?_⟩)
    exact ⟨rfl, _, rfl, h⟩
  refine wa_nil (⟨_, _, rfl, ⟨_, rfl, fun turned11 eturned11 => ?_⟩⟩)
  have h := h turned11 eturned11
  try dsimp only
  refine kn_seq (kn_asg (i := 4) (we_callE (wa_cons (we_var rfl (wa_nil ?_)))))
  refine sps_W0 turned11 h (fun v12 h => ?_)
  try dsimp only
  refine kn_seq (kn_asg (i := 5) (we_callE (wa_cons (we_var rfl (wa_nil ?_)))))
  refine sps_W0 v12 h (fun v13 h => ?_)
  try dsimp only
  refine kn_seq (kn_if (wt_orC (wt_not (wt_b (we_cb (wa_cons (we_var rfl (wa_cons (we_cT (wa_nil (cb_isi ty_yS (show kitB "str" "str" = some true by decide +kernel) (⟨_, rfl, ?_⟩))))))))))))
  refine orK h (fun h => ?_) (fun c14 h => ?_)
  · refine wt_test (we_op (we_var rfl (we_bm (we_cSy (z := "\n") (asc_of (by decide)) (by decide) (⟨tyl_yS, wa_cons (we_callE (wa_cons (we_callE (wa_cons (we_var rfl (wa_nil ?_))))))⟩)))))
    refine sps_W0 v3 h (fun v16 h => ?_)
    refine wa_nil ?_
    refine sps_W0 v16 h (fun v17 h => ?_)
    refine wa_nil ?_
    obtain ⟨g18, h⟩ := h
    refine my_join g18 (oy_neS (⟨_, rfl, ?_⟩))
    exact ⟨rfl, h⟩
  refine ⟨fun hc => ?_, fun hc => ?_⟩
  · have h := h.1 hc
    refine kn_ret (we_cB ?_)
    exact hret _ h
  · have h := h.2 hc
    refine kn_next ?_
    try dsimp only
    refine kn_ret (we_andC (we_eqO (we_var rfl (we_callE (wa_cons (we_var rfl (wa_nil ?_)))))))
    refine sps_W0 v3 h (fun v19 h => ?_)
    refine ⟨InsP.c (ins_plan (m := "__contains__") rfl), InsP.c (ins_plan (m := "__contains__") rfl), ?_⟩
    refine sps_W0 (v12, v19) h (fun v20 h => ?_)
    refine ⟨_, rfl, ?_⟩
    refine andKv h (fun h => ?_) (fun c21 h => ?_)
    · refine we_op (we_callE (wa_cons (we_var rfl (wa_nil ?_))))
      refine sps_W0 v12 h (fun v23 h => ?_)
      refine we_var rfl (oy_eqS ?_)
      exact ⟨rfl, _, rfl, h⟩
    exact hret _ h
end

/-! ## k61p -/
section
theorem ixN_nat {n j : Nat} (h : j < n) : ixN n (j : Int) = some j := by
  unfold ixN
  rw [if_pos (by omega), if_pos (by omega), Int.toNat_natCast]
theorem erase_perm {α : Type} : ∀ (l : List α) (j : Nat) (h : j < l.length), (l[j] :: l.eraseIdx j).Perm l
  | a :: l, 0, _ => .refl _
  | a :: l, j + 1, h => by
    show (l[j]'(Nat.lt_of_succ_lt_succ h) :: a :: l.eraseIdx j).Perm (a :: l)
    exact (List.Perm.swap _ _ _).trans ((erase_perm l j (Nat.lt_of_succ_lt_succ h)).cons a)
theorem mixed_ok {ws : List Str} {Q : List Str → Prop} {X : HE → Prop} (hl : ws.length ≤ 100) (h : ∀ r, r.Perm ws → Q r) : m__law_mixed ws Q X := by
  unfold m__law_mixed
  rw [Int.toNat_natCast]
  refine forD_inv (fun done (s : List Str × List Str) => s.1.length + done.length = ws.length ∧ (s.1 ++ s.2).Perm ws) ⟨by show ws.length + 0 = _; omega, by show (ws ++ []).Perm ws; rw [List.append_nil]⟩ (fun pre x post s nx e ⟨h1, h2⟩ hnx => ?_) fun s ⟨h1, h2⟩ => ?_
  · have hp := (intsF_split e).2
    refine draw_ok (by omega) (Int.le_trans (show (s.1.length : Int) ≤ 1000 by omega) (by decide)) fun j hj => ?_
    have hj : j < s.1.length := by omega
    have hl2 := h2.length_eq
    rw [List.length_append] at hl2
    refine ⟨j, ixN_nat hj, s.1[j], List.getElem?_eq_getElem hj, lt_big (by omega), hnx _ ⟨?_, ?_⟩⟩
    · show (s.1.eraseIdx j).length + _ = _
      rw [List.length_eraseIdx_of_lt hj, List.length_append]
      show _ + (_ + 1) = _
      omega
    · show (s.1.eraseIdx j ++ (s.2 ++ [s.1[j]])).Perm ws
      refine .trans ?_ h2
      have h3 : (s.1[j] :: s.1.eraseIdx j).Perm s.1 := erase_perm s.1 j hj
      have h4 : (s.1.eraseIdx j ++ (s.2 ++ [s.1[j]])).Perm (s.1[j] :: (s.1.eraseIdx j ++ s.2)) := by
        rw [← List.append_assoc]
        exact List.perm_append_singleton _ _
      exact h4.trans (by rw [← List.cons_append]; exact h3.append_right _)
  · rw [intsF_len] at h1
    have e : s.1 = [] := List.eq_nil_of_length_eq_zero (by omega)
    rw [e, List.nil_append] at h2
    exact h _ h2
theorem plan_ok {prs : List (Str × Int)} {srs : List SRow} (ok : OkRows prs srs) {Q : PlanD → Prop} {X : HE → Prop} (h : Q (planOf prs srs)) : m__law_plan (prs, srs) Q X := by
  unfold m__law_plan
  intro rows hr
  have e1 : rows = srs := by rw [hr]; simp
  have e2 : prs.map (fun x4 : Str × Int => (x4.1, x4.2)) = prs := by simp
  rw [e1]
  show mk_Plan (prs.map fun x4 : Str × Int => (x4.1, x4.2)) srs _ _
  rw [e2]
  exact ⟨ok.B, fun _ => h, fun y hy => by rw [ok.due] at hy; cases hy⟩
def pline (x : Str × Int) : Str := ((("place " : Str) ++ x.1) ++ (" " : Str)) ++ numS x.2
def swords (x : SRow) : List Str := ((("step" : Str) :: ((x.1 ++ (":" : Str)) :: (x.2.1 ++ (("->" : Str) :: (x.2.2 ++ []))))))
def sline (x : SRow) : Str := Txt.join (" " : Str) (swords x)
theorem num99 {n : Int} (h0 : 0 ≤ n) (h : n ≤ 99) : CStr n ∧ (numS n).length ≤ 2 := by
  obtain ⟨k, rfl⟩ : ∃ k : Nat, n = k := ⟨n.toNat, by omega⟩
  exact ⟨cstr_nat (Nat.lt_trans (show k < 100 by omega) (by decide)), num_lenN (by decide) (by show k < 100; omega)⟩
theorem pline_len {x : Str × Int} (h : x.1.length ≤ 12) (h0 : 0 ≤ x.2) (h1 : x.2 ≤ 99) : (pline x).length ≤ 21 := by
  have := (num99 h0 h1).2
  have e : (("place " : Str)).length = 6 := by decide
  have e2 : ((" " : Str)).length = 1 := by decide
  unfold pline
  rw [len_app, len_app, len_app, e, e2]
  omega
theorem join_len_le (sep : Str) (l : List Str) : (Txt.join sep l).length ≤ (l.map (·.length)).sum + l.length * sep.length := by
  rw [TL.join_eq]
  induction l with
  | nil => exact Nat.zero_le _
  | cons a l ih =>
    cases l with
    | nil =>
      show a.length ≤ _
      simp
    | cons b l =>
      show (a ++ sep ++ Str.join sep (b :: l)).length ≤ _
      rw [len_app, len_app]
      rw [List.map_cons, List.sum_cons, List.length_cons, Nat.add_mul, Nat.one_mul]
      omega
/-- a row of a step, all of whose words are short -/
structure SRowS (x : SRow) : Prop where
  n : x.1.length ≤ 12
  t : ∀ y ∈ x.2.1, y.length ≤ 12
  g : ∀ y ∈ x.2.2, y.length ≤ 12
  lt : x.2.1.length ≤ 12
  lg : x.2.2.length ≤ 12
theorem swords_len {x : SRow} (h : SRowS x) : (swords x).length ≤ 27 ∧ ∀ y ∈ swords x, y.length ≤ 13 := by
  have e1 : (("step" : Str)).length = 4 := by decide
  have e2 : ((":" : Str)).length = 1 := by decide
  have e3 : (("->" : Str)).length = 2 := by decide
  have h1 := h.lt
  have h2 := h.lg
  have h3 := h.n
  constructor
  · unfold swords
    simp only [List.length_cons, List.length_append, List.length_nil]
    omega
  · intro y hy
    unfold swords at hy
    simp only [List.mem_cons, List.mem_append, List.not_mem_nil, or_false] at hy
    rcases hy with rfl | rfl | hy | rfl | hy
    · omega
    · rw [len_app]; omega
    · have := h.t y hy; omega
    · omega
    · have := h.g y hy; omega
theorem sline_len {x : SRow} (h : SRowS x) : (sline x).length ≤ 400 ∧ ((swords x).map (·.length)).sum + (swords x).length ≤ 400 := by
  obtain ⟨h1, h2⟩ := swords_len h
  have h3 := sum_le h2
  have h4 := join_len_le (" " : Str) (swords x)
  have e2 : ((" " : Str)).length = 1 := by decide
  rw [e2, Nat.mul_one] at h4
  unfold sline
  omega
theorem place_line_ok {x : Str × Int} (h : x.1.length ≤ 12) (h0 : 0 ≤ x.2) (h1 : x.2 ≤ 99) {Q : Str → Prop} {X : HE → Prop} (hq : Q (pline x)) : m_place_line x.1 x.2 Q X := by
  unfold m_place_line
  have h2 := num99 h0 h1
  have e : (("place " : Str)).length = 6 := by decide
  have e2 : ((" " : Str)).length = 1 := by decide
  have hb : big = 100000 := rfl
  rw [empty_app]
  have z0 : (Str.empty).length = 0 := rfl
  refine ⟨by omega, by omega, by rw [len_app]; omega, h2.1, by rw [len_app, len_app]; omega, by rw [len_app, len_app, len_app]; omega, hq⟩
theorem step_line_ok {x : SRow} (h : SRowS x) {Q : Str → Prop} {X : HE → Prop} (hq : Q (sline x)) : m_step_line x.1 x.2.1 x.2.2 Q X := by
  unfold m_step_line
  have hb : big = 100000 := rfl
  have e1 : ((":" : Str)).length = 1 := by decide
  have e2 : ((" " : Str)).length = 1 := by decide
  have h1 := (swords_len h).1
  have h2 := (sline_len h).2
  have h3 := h.n
  refine ⟨by omega, Nat.le_trans h1 (by decide), ?_, hq⟩
  show ((swords x).map (·.length)).sum + (swords x).length * _ ≤ big
  rw [e2]
  omega
/-- the lines of rows -/
def linesOf (prs : List (Str × Int)) (srs : List SRow) : List Str := prs.map pline ++ srs.map sline
theorem lines_ok {prs : List (Str × Int)} {srs : List SRow} (hp : ∀ x ∈ prs, x.1.length ≤ 12 ∧ 0 ≤ x.2 ∧ x.2 ≤ 99) (hs : ∀ x ∈ srs, SRowS x) (lp : prs.length ≤ 12) (ls : srs.length ≤ 16) {Q : List Str → Prop} {X : HE → Prop} (h : Q (linesOf prs srs)) : m__law_lines (prs, srs) Q X := by
  unfold m__law_lines
  have hb : big = 100000 := rfl
  have e : (("place " : Str)).length = 6 := by decide
  have e1 : ((":" : Str)).length = 1 := by decide
  have e2 : ((" " : Str)).length = 1 := by decide
  refine forD_push pline (N := big) (fun x hx s nx hl hn => ?_) (by show 0 + prs.length ≤ _; omega) ?_
  · obtain ⟨a1, a2, a3⟩ := hp x hx
    have a4 := num99 a2 a3
    exact ⟨by omega, by rw [len_app]; omega, a4.1, by rw [len_app, len_app]; omega, hl, hn⟩
  · rw [List.nil_append]
    refine forD_push sline (N := big) (fun x hx s nx hl hn => ?_) (by rw [List.length_map]; show prs.length + srs.length ≤ _; omega) h
    have sx := hs x hx
    have h1 := (swords_len sx).1
    have h2 := (sline_len sx).2
    have h3 := sx.n
    have h4 := sx.lt
    have h5 := sx.lg
    have ew : ((([("step" : Str), (x.1 ++ (":" : Str))] ++ x.2.1) ++ [("->" : Str)]) ++ x.2.2) = swords x := by
      unfold swords
      simp
    refine ⟨by omega, by show 2 + x.2.1.length ≤ _; omega, ?_, ?_, ?_, hl, ?_⟩
    · rw [List.length_append]; show 2 + x.2.1.length + 1 ≤ _; omega
    · rw [List.length_append, List.length_append]; show 2 + x.2.1.length + 1 + x.2.2.length ≤ _; omega
    · rw [ew, e2]; omega
    · rw [ew]; exact hn
theorem write_ok {d : PlanD} {prs : List (Str × Int)} (pk : PlanOk d) (h1 : d.places = prs.map (·.1)) (h2 : d.begin = prs.map (·.2)) (hs : ∀ x ∈ d.steps, SRowS x) {Q : Str → Prop} {X : HE → Prop} (h : Q (Txt.join ("\n" : Str) (linesOf prs d.steps))) : m_write_plan d Q X := by
  unfold m_write_plan
  have hb : big = 100000 := rfl
  have lp : prs.length ≤ 12 := by have := pk.p12; rw [h1, List.length_map] at this; exact this
  have ls := pk.s16
  have hp : ∀ x ∈ prs, x.1.length ≤ 12 ∧ 0 ≤ x.2 ∧ x.2 ≤ 99 := fun x hx => ⟨(pk.pa x.1 (by rw [h1]; exact List.mem_map.mpr ⟨x, hx, rfl⟩)).len, pk.bn x.2 (by rw [h2]; exact List.mem_map.mpr ⟨x, hx, rfl⟩)⟩
  refine place_rows_ok h1 h2 (mapD_ok pline (fun x hx k hk => place_line_ok (hp x hx).1 (hp x hx).2.1 (hp x hx).2.2 hk) ?_)
  rw [List.nil_append]
  refine step_rows_ok pk (forD_push sline (N := big) (fun x hx s nx hl hn => step_line_ok (hs x hx) ⟨hl, hn⟩) (by rw [List.length_map]; omega) ⟨?_, h⟩)
  have e2 : (("\n" : Str)).length = 1 := by decide
  have := sum_le (l := linesOf prs d.steps) (m := 400) fun y hy => by
    rcases List.mem_append.mp hy with q | q
    · obtain ⟨x, hx, rfl⟩ := List.mem_map.mp q
      have := pline_len (hp x hx).1 (hp x hx).2.1 (hp x hx).2.2
      omega
    · obtain ⟨x, hx, rfl⟩ := List.mem_map.mp q
      exact (sline_len (hs x hx)).1
  have hl : (linesOf prs d.steps).length ≤ 28 := by
    unfold linesOf
    rw [List.length_append, List.length_map, List.length_map]
    omega
  show ((linesOf prs d.steps).map (·.length)).sum + (linesOf prs d.steps).length * _ ≤ big
  rw [e2]
  omega
theorem orderly_ok {prs : List (Str × Int)} {srs : List SRow} (ls : srs.length ≤ 16) {Q : List (Str × Int) × List SRow → Prop} {X : HE → Prop} (h : Q (prs, (planOf prs srs).steps)) : m__law_orderly (prs, srs) Q X := by
  unfold m__law_orderly
  intro words hw
  refine forD_push (fun x : SRow => (x.1, inOrd (prs.map (·.1)) x.2.1, inOrd (prs.map (·.1)) x.2.2)) (N := big) (fun x hx s nx hl hn t ht => ⟨hl, ?_⟩) (by have hb : big = 100000 := rfl; show 0 + srs.length ≤ _; omega) ?_
  · rw [ht, List.map_id', List.map_id', hw]
    exact hn
  · rw [List.nil_append]
    exact h
theorem OkRows.turned {prs : List (Str × Int)} {srs trs : List SRow} (ok : OkRows prs srs) (h : Paired (fun (x y : SRow) => y.1 = x.1 ∧ y.2.1.Perm x.2.1 ∧ y.2.2.Perm x.2.2) srs trs) : OkRows prs trs ∧ planOf prs trs = planOf prs srs := by
  have hl : trs.length = srs.length := (Paired.len h).symm
  have hn : trs.map (·.1) = srs.map (·.1) := by
    clear ok hl
    induction h with
    | nil => rfl
    | cons a _ ih => rw [List.map_cons, List.map_cons, ih, a.1]
  refine ⟨⟨ok.pw, ok.pn, fun y hy => ?_, by rw [hn]; exact ok.sn, ok.p12, by rw [hl]; exact ok.s16⟩, ?_⟩
  · obtain ⟨j, hj⟩ := List.getElem?_of_mem hy
    obtain ⟨x, hx, e1, e2, e3⟩ := Paired.get' h hj
    obtain ⟨a0, a1, a2, a3, a4, a5⟩ := ok.sw x (List.mem_of_getElem? hx)
    refine ⟨by rw [e1]; exact a0, fun q => a1 ?_, e2.nodup_iff.mpr a2, fun z hz => a3 z (e2.mem_iff.mp hz), e3.nodup_iff.mpr a4, fun z hz => a5 z (e3.mem_iff.mp hz)⟩
    rw [q] at e2
    exact e2.nil_eq.symm
  · unfold planOf
    congr 1
    clear ok hl hn
    induction h with
    | nil => rfl
    | cons a _ ih =>
      obtain ⟨e1, e2, e3⟩ := a
      rw [List.map_cons, List.map_cons, ih, e1, inOrd_congr' fun y => e2.mem_iff, inOrd_congr' fun y => e3.mem_iff]
theorem OkRows.short {prs : List (Str × Int)} {srs : List SRow} (ok : OkRows prs srs) : ∀ x ∈ (planOf prs srs).steps, SRowS x := fun x hx => by
  obtain ⟨r, hr, rfl⟩ := List.mem_map.mp hx
  have pw : ∀ y ∈ prs.map (·.1), y.length ≤ 12 := fun y hy => by
    obtain ⟨q, hq, rfl⟩ := List.mem_map.mp hy
    exact (ok.pw q hq).1.len
  have il : ∀ ns, (inOrd (prs.map (·.1)) ns).length ≤ 12 := fun ns => by
    have := (List.filter_sublist (l := prs.map (·.1)) (p := fun p => decide (p ∈ ns))).length_le
    rw [List.length_map] at this
    have := ok.p12
    unfold inOrd
    omega
  exact ⟨(ok.sw r hr).1.len, fun y hy => pw y (inOrd_sub hy).1, fun y hy => pw y (inOrd_sub hy).1, il _, il _⟩
theorem law_pure : m_law (· = true) noX := by
  unfold m_law
  refine draw_ok (by decide) (by decide) fun a ha => draw_ok (by decide) (by decide) fun b hb => ?_
  refine any_ok (by omega) (by omega) fun prs srs ok hpl hsl => ?_
  refine mapD_inv (fun (x y : SRow) => y.1 = x.1 ∧ y.2.1.Perm x.2.1 ∧ y.2.2.Perm x.2.2) (fun x hx k hk => ?_) fun trs htr => ?_
  · obtain ⟨a0, a1, a2, a3, a4, a5⟩ := ok.sw x hx
    have l1 := ok.len a2 a3
    have l2 := ok.len a4 a5
    exact mixed_ok (by omega) fun r1 p1 => mixed_ok (by omega) fun r2 p2 => hk _ ⟨rfl, p1, p2⟩
  rw [List.nil_append]
  obtain ⟨ok2, ep⟩ := ok.turned htr
  intro turned ht
  rw [ht]
  refine plan_ok ok2 ?_
  rw [ep]
  have pk : PlanOk (planOf prs srs) := planDue_ok ok.due
  have sh := ok.short
  have p12 := ok.p12
  have s16 : (planOf prs srs).steps.length ≤ 16 := pk.s16
  have hp : ∀ x ∈ prs, x.1.length ≤ 12 ∧ 0 ≤ x.2 ∧ x.2 ≤ 99 := fun x hx => ⟨(ok.pw x hx).1.len, (ok.pw x hx).2⟩
  refine write_ok pk rfl rfl sh (orD_ok (c := false) (fun _ k hk => orderly_ok ok.s16 (lines_ok hp sh p12 s16 ⟨?_, ?_⟩)) (ifD_f rfl (plan_ok ok (eq_self pk (andD_ok (c := true) (fun _ k hk => write_ok pk rfl rfl sh ?_) rfl)))))
  · have hb : big = 100000 := rfl
    have e2 : (("\n" : Str)).length = 1 := by decide
    have := sum_le (l := linesOf prs (planOf prs srs).steps) (m := 400) fun y hy => by
      rcases List.mem_append.mp hy with q | q
      · obtain ⟨x, hx, rfl⟩ := List.mem_map.mp q
        have := pline_len (hp x hx).1 (hp x hx).2.1 (hp x hx).2.2
        omega
      · obtain ⟨x, hx, rfl⟩ := List.mem_map.mp q
        exact (sline_len (sh x hx)).1
    have hl : (linesOf prs (planOf prs srs).steps).length ≤ 28 := by
      unfold linesOf
      rw [List.length_append, List.length_map, List.length_map]
      omega
    rw [e2]
    omega
  · rw [decide_eq_true rfl]
    exact hk
  · rw [decide_eq_true rfl]
    exact hk
end

/-! ## the end -/
theorem all_mk {P : Program} {w : World} {K : PySem.W.Frag} {h : Heap} {mg : Str → Option Value} {fa : Addr} (X : K.In h) (G : h.Ns mainGlobals mg) (hfa : mg "law" = some (.ref fa)) (top : (P.main.scope.names.lookup ("super" : Str)).isSome = false)
    {t_LETTERS : Tok}
    {t_DIGITS : Tok}
    {t_MOST_SIGNS : Tok}
    {t_MOST_PLACES : Tok}
    {t_MOST_STEPS : Tok}
    {t_MOST_BEGIN : Tok}
    {f__law_bag : Addr} {od__law_bag an__law_bag : Option Addr} {sl__law_bag : Array (Option Value)} {oc__law_bag kV__law_bag dc__law_bag pm__law_bag cd__law_bag ct__law_bag : Value}
    {f__law_draw : Addr} {od__law_draw an__law_draw : Option Addr} {sl__law_draw : Array (Option Value)} {oc__law_draw kV__law_draw dc__law_draw pm__law_draw cd__law_draw ct__law_draw : Value}
    {f_is_word : Addr} {od_is_word an_is_word : Option Addr} {sl_is_word : Array (Option Value)} {oc_is_word kV_is_word dc_is_word pm_is_word cd_is_word ct_is_word : Value}
    {f_check_word : Addr} {od_check_word an_check_word : Option Addr} {sl_check_word : Array (Option Value)} {oc_check_word kV_check_word dc_check_word pm_check_word cd_check_word ct_check_word : Value}
    {f_check_number : Addr} {od_check_number an_check_number : Option Addr} {sl_check_number : Array (Option Value)} {oc_check_number kV_check_number dc_check_number pm_check_number cd_check_number ct_check_number : Value}
    {f_check_names : Addr} {od_check_names an_check_names : Option Addr} {sl_check_names : Array (Option Value)} {oc_check_names kV_check_names dc_check_names pm_check_names cd_check_names ct_check_names : Value}
    {f_in_order : Addr} {od_in_order an_in_order : Option Addr} {sl_in_order : Array (Option Value)} {oc_in_order kV_in_order dc_in_order pm_in_order cd_in_order ct_in_order : Value}
    {f__law_word : Addr} {od__law_word an__law_word : Option Addr} {sl__law_word : Array (Option Value)} {oc__law_word kV__law_word dc__law_word pm__law_word cd__law_word ct__law_word : Value}
    {f__law_subset : Addr} {od__law_subset an__law_subset : Option Addr} {sl__law_subset : Array (Option Value)} {oc__law_subset kV__law_subset dc__law_subset pm__law_subset cd__law_subset ct__law_subset : Value}
    {f__law_any : Addr} {od__law_any an__law_any : Option Addr} {sl__law_any : Array (Option Value)} {oc__law_any kV__law_any dc__law_any pm__law_any cd__law_any ct__law_any : Value}
    {f_place_line : Addr} {od_place_line an_place_line : Option Addr} {sl_place_line : Array (Option Value)} {oc_place_line kV_place_line dc_place_line pm_place_line cd_place_line ct_place_line : Value}
    {f_step_line : Addr} {od_step_line an_step_line : Option Addr} {sl_step_line : Array (Option Value)} {oc_step_line kV_step_line dc_step_line pm_step_line cd_step_line ct_step_line : Value}
    {f_write_plan : Addr} {od_write_plan an_write_plan : Option Addr} {sl_write_plan : Array (Option Value)} {oc_write_plan kV_write_plan dc_write_plan pm_write_plan cd_write_plan ct_write_plan : Value}
    {f__law_mixed : Addr} {od__law_mixed an__law_mixed : Option Addr} {sl__law_mixed : Array (Option Value)} {oc__law_mixed kV__law_mixed dc__law_mixed pm__law_mixed cd__law_mixed ct__law_mixed : Value}
    {f__law_plan : Addr} {od__law_plan an__law_plan : Option Addr} {sl__law_plan : Array (Option Value)} {oc__law_plan kV__law_plan dc__law_plan pm__law_plan cd__law_plan ct__law_plan : Value}
    {f__law_lines : Addr} {od__law_lines an__law_lines : Option Addr} {sl__law_lines : Array (Option Value)} {oc__law_lines kV__law_lines dc__law_lines pm__law_lines cd__law_lines ct__law_lines : Value}
    {f__law_orderly : Addr} {od__law_orderly an__law_orderly : Option Addr} {sl__law_orderly : Array (Option Value)} {oc__law_orderly kV__law_orderly dc__law_orderly pm__law_orderly cd__law_orderly ct__law_orderly : Value}
    {f_law : Addr} {od_law an_law : Option Addr} {sl_law : Array (Option Value)} {oc_law kV_law dc_law pm_law cd_law ct_law : Value}
    {C_TooMany fI_TooMany N_TooMany cda_TooMany cc_TooMany : Addr} {nm_TooMany q_TooMany file_TooMany : Str} {bs_TooMany bm_TooMany sub_TooMany : List Value} {sn_TooMany : List Str} {ab_TooMany : Bool} {col_TooMany : Option Bool} {dd_TooMany od_TooMany an_TooMany cdd_TooMany cld_TooMany : Option Addr} {m0_TooMany m1_TooMany m2_TooMany m3_TooMany m5_TooMany : Option Value} {oc_TooMany kV_TooMany dc_TooMany pm_TooMany ct_TooMany ccl_TooMany cl_TooMany : Value} {sl_TooMany ccs_TooMany csl_TooMany : Array (Option Value)} {vs_TooMany : Array Value} {tf_TooMany : Tok}
    {C_BadWord fI_BadWord N_BadWord cda_BadWord cc_BadWord : Addr} {nm_BadWord q_BadWord file_BadWord : Str} {bs_BadWord bm_BadWord sub_BadWord : List Value} {sn_BadWord : List Str} {ab_BadWord : Bool} {col_BadWord : Option Bool} {dd_BadWord od_BadWord an_BadWord cdd_BadWord cld_BadWord : Option Addr} {m0_BadWord m1_BadWord m2_BadWord m3_BadWord m5_BadWord : Option Value} {oc_BadWord kV_BadWord dc_BadWord pm_BadWord ct_BadWord ccl_BadWord cl_BadWord : Value} {sl_BadWord ccs_BadWord csl_BadWord : Array (Option Value)} {vs_BadWord : Array Value} {tf_BadWord : Tok}
    {C_DoubleName fI_DoubleName N_DoubleName cda_DoubleName cc_DoubleName : Addr} {nm_DoubleName q_DoubleName file_DoubleName : Str} {bs_DoubleName bm_DoubleName sub_DoubleName : List Value} {sn_DoubleName : List Str} {ab_DoubleName : Bool} {col_DoubleName : Option Bool} {dd_DoubleName od_DoubleName an_DoubleName cdd_DoubleName cld_DoubleName : Option Addr} {m0_DoubleName m1_DoubleName m2_DoubleName m3_DoubleName m5_DoubleName : Option Value} {oc_DoubleName kV_DoubleName dc_DoubleName pm_DoubleName ct_DoubleName ccl_DoubleName cl_DoubleName : Value} {sl_DoubleName ccs_DoubleName csl_DoubleName : Array (Option Value)} {vs_DoubleName : Array Value} {tf_DoubleName : Tok}
    {C_BadNumber fI_BadNumber N_BadNumber cda_BadNumber cc_BadNumber : Addr} {nm_BadNumber q_BadNumber file_BadNumber : Str} {bs_BadNumber bm_BadNumber sub_BadNumber : List Value} {sn_BadNumber : List Str} {ab_BadNumber : Bool} {col_BadNumber : Option Bool} {dd_BadNumber od_BadNumber an_BadNumber cdd_BadNumber cld_BadNumber : Option Addr} {m0_BadNumber m1_BadNumber m2_BadNumber m3_BadNumber m5_BadNumber : Option Value} {oc_BadNumber kV_BadNumber dc_BadNumber pm_BadNumber ct_BadNumber ccl_BadNumber cl_BadNumber : Value} {sl_BadNumber ccs_BadNumber csl_BadNumber : Array (Option Value)} {vs_BadNumber : Array Value} {tf_BadNumber : Tok}
    {C_EmptyStep fI_EmptyStep N_EmptyStep cda_EmptyStep cc_EmptyStep : Addr} {nm_EmptyStep q_EmptyStep file_EmptyStep : Str} {bs_EmptyStep bm_EmptyStep sub_EmptyStep : List Value} {sn_EmptyStep : List Str} {ab_EmptyStep : Bool} {col_EmptyStep : Option Bool} {dd_EmptyStep od_EmptyStep an_EmptyStep cdd_EmptyStep cld_EmptyStep : Option Addr} {m0_EmptyStep m1_EmptyStep m2_EmptyStep m3_EmptyStep m5_EmptyStep : Option Value} {oc_EmptyStep kV_EmptyStep dc_EmptyStep pm_EmptyStep ct_EmptyStep ccl_EmptyStep cl_EmptyStep : Value} {sl_EmptyStep ccs_EmptyStep csl_EmptyStep : Array (Option Value)} {vs_EmptyStep : Array Value} {tf_EmptyStep : Tok}
    {C_UnknownName fI_UnknownName N_UnknownName cda_UnknownName cc_UnknownName : Addr} {nm_UnknownName q_UnknownName file_UnknownName : Str} {bs_UnknownName bm_UnknownName sub_UnknownName : List Value} {sn_UnknownName : List Str} {ab_UnknownName : Bool} {col_UnknownName : Option Bool} {dd_UnknownName od_UnknownName an_UnknownName cdd_UnknownName cld_UnknownName : Option Addr} {m0_UnknownName m1_UnknownName m2_UnknownName m3_UnknownName m5_UnknownName : Option Value} {oc_UnknownName kV_UnknownName dc_UnknownName pm_UnknownName ct_UnknownName ccl_UnknownName cl_UnknownName : Value} {sl_UnknownName ccs_UnknownName csl_UnknownName : Array (Option Value)} {vs_UnknownName : Array Value} {tf_UnknownName : Tok}
    {C_Plan : Addr}
    {f_Plan___init__ : Addr} {od_Plan___init__ an_Plan___init__ : Option Addr} {sl_Plan___init__ : Array (Option Value)} {oc_Plan___init__ kV_Plan___init__ dc_Plan___init__ pm_Plan___init__ cd_Plan___init__ ct_Plan___init__ : Value}
    {f_Plan_put_step : Addr} {od_Plan_put_step an_Plan_put_step : Option Addr} {sl_Plan_put_step : Array (Option Value)} {oc_Plan_put_step kV_Plan_put_step dc_Plan_put_step pm_Plan_put_step cd_Plan_put_step ct_Plan_put_step : Value}
    {f_Plan_place_rows : Addr} {od_Plan_place_rows an_Plan_place_rows : Option Addr} {sl_Plan_place_rows : Array (Option Value)} {oc_Plan_place_rows kV_Plan_place_rows dc_Plan_place_rows pm_Plan_place_rows cd_Plan_place_rows ct_Plan_place_rows : Value}
    {f_Plan_step_rows : Addr} {od_Plan_step_rows an_Plan_step_rows : Option Addr} {sl_Plan_step_rows : Array (Option Value)} {oc_Plan_step_rows kV_Plan_step_rows dc_Plan_step_rows pm_Plan_step_rows cd_Plan_step_rows ct_Plan_step_rows : Value}
    {f_Plan___eq__ : Addr} {od_Plan___eq__ an_Plan___eq__ : Option Addr} {sl_Plan___eq__ : Array (Option Value)} {oc_Plan___eq__ kV_Plan___eq__ dc_Plan___eq__ pm_Plan___eq__ cd_Plan___eq__ ct_Plan___eq__ : Value}
    (z_len : PySem.W.nsIn K mainGlobals "len" = some none)
    (z_range : PySem.W.nsIn K mainGlobals "range" = some none)
    (z_abs : PySem.W.nsIn K mainGlobals "abs" = some none)
    (z_sum : PySem.W.nsIn K mainGlobals "sum" = some none)
    (z_sorted : PySem.W.nsIn K mainGlobals "sorted" = some none)
    (z_isinstance : PySem.W.nsIn K mainGlobals "isinstance" = some none)
    (z_zip : PySem.W.nsIn K mainGlobals "zip" = some none)
    (z_enumerate : PySem.W.nsIn K mainGlobals "enumerate" = some none)
    (z_reversed : PySem.W.nsIn K mainGlobals "reversed" = some none)
    (z_int : PySem.W.nsIn K mainGlobals "int" = some none)
    (z_str : PySem.W.nsIn K mainGlobals "str" = some none)
    (z_list : PySem.W.nsIn K mainGlobals "list" = some none)
    (z_tuple : PySem.W.nsIn K mainGlobals "tuple" = some none)
    (z_bool : PySem.W.nsIn K mainGlobals "bool" = some none)
    (z_all : PySem.W.nsIn K mainGlobals "all" = some none)
    (z_any : PySem.W.nsIn K mainGlobals "any" = some none)
    (z_ValueError : PySem.W.nsIn K mainGlobals "ValueError" = some none)
    (z_super : PySem.W.nsIn K mainGlobals "super" = some none)
    (a_LETTERS : PySem.W.nsIn K mainGlobals "LETTERS" = some (some (.str LETTERS t_LETTERS)))
    (a_DIGITS : PySem.W.nsIn K mainGlobals "DIGITS" = some (some (.str DIGITS t_DIGITS)))
    (a_MOST_SIGNS : PySem.W.nsIn K mainGlobals "MOST_SIGNS" = some (some (.int 12 t_MOST_SIGNS)))
    (a_MOST_PLACES : PySem.W.nsIn K mainGlobals "MOST_PLACES" = some (some (.int 12 t_MOST_PLACES)))
    (a_MOST_STEPS : PySem.W.nsIn K mainGlobals "MOST_STEPS" = some (some (.int 16 t_MOST_STEPS)))
    (a_MOST_BEGIN : PySem.W.nsIn K mainGlobals "MOST_BEGIN" = some (some (.int 99 t_MOST_BEGIN)))
    (a__law_bag : PySem.W.nsIn K mainGlobals "_law_bag" = some (some (.ref f__law_bag)))
    (l__law_bag : K.lookup f__law_bag = some ⟨oc__law_bag, od__law_bag, .func (PySem.W.fnOf "_law_bag" "_law_bag" (defArgs s__law_bag) (defBody s__law_bag) (defScope s__law_bag) .none kV__law_bag dc__law_bag pm__law_bag an__law_bag cd__law_bag ct__law_bag), sl__law_bag⟩)
    (c__law_bag : PySem.W.codeIn K cd__law_bag "_law_bag" = true)
    (k__law_bag : PySem.W.keepIn K (.ref f__law_bag) = true)
    (a__law_draw : PySem.W.nsIn K mainGlobals "_law_draw" = some (some (.ref f__law_draw)))
    (l__law_draw : K.lookup f__law_draw = some ⟨oc__law_draw, od__law_draw, .func (PySem.W.fnOf "_law_draw" "_law_draw" (defArgs s__law_draw) (defBody s__law_draw) (defScope s__law_draw) .none kV__law_draw dc__law_draw pm__law_draw an__law_draw cd__law_draw ct__law_draw), sl__law_draw⟩)
    (c__law_draw : PySem.W.codeIn K cd__law_draw "_law_draw" = true)
    (k__law_draw : PySem.W.keepIn K (.ref f__law_draw) = true)
    (a_is_word : PySem.W.nsIn K mainGlobals "is_word" = some (some (.ref f_is_word)))
    (l_is_word : K.lookup f_is_word = some ⟨oc_is_word, od_is_word, .func (PySem.W.fnOf "is_word" "is_word" (defArgs s_is_word) (defBody s_is_word) (defScope s_is_word) .none kV_is_word dc_is_word pm_is_word an_is_word cd_is_word ct_is_word), sl_is_word⟩)
    (c_is_word : PySem.W.codeIn K cd_is_word "is_word" = true)
    (k_is_word : PySem.W.keepIn K (.ref f_is_word) = true)
    (a_check_word : PySem.W.nsIn K mainGlobals "check_word" = some (some (.ref f_check_word)))
    (l_check_word : K.lookup f_check_word = some ⟨oc_check_word, od_check_word, .func (PySem.W.fnOf "check_word" "check_word" (defArgs s_check_word) (defBody s_check_word) (defScope s_check_word) .none kV_check_word dc_check_word pm_check_word an_check_word cd_check_word ct_check_word), sl_check_word⟩)
    (c_check_word : PySem.W.codeIn K cd_check_word "check_word" = true)
    (k_check_word : PySem.W.keepIn K (.ref f_check_word) = true)
    (a_check_number : PySem.W.nsIn K mainGlobals "check_number" = some (some (.ref f_check_number)))
    (l_check_number : K.lookup f_check_number = some ⟨oc_check_number, od_check_number, .func (PySem.W.fnOf "check_number" "check_number" (defArgs s_check_number) (defBody s_check_number) (defScope s_check_number) .none kV_check_number dc_check_number pm_check_number an_check_number cd_check_number ct_check_number), sl_check_number⟩)
    (c_check_number : PySem.W.codeIn K cd_check_number "check_number" = true)
    (k_check_number : PySem.W.keepIn K (.ref f_check_number) = true)
    (a_check_names : PySem.W.nsIn K mainGlobals "check_names" = some (some (.ref f_check_names)))
    (l_check_names : K.lookup f_check_names = some ⟨oc_check_names, od_check_names, .func (PySem.W.fnOf "check_names" "check_names" (defArgs s_check_names) (defBody s_check_names) (defScope s_check_names) .none kV_check_names dc_check_names pm_check_names an_check_names cd_check_names ct_check_names), sl_check_names⟩)
    (c_check_names : PySem.W.codeIn K cd_check_names "check_names" = true)
    (k_check_names : PySem.W.keepIn K (.ref f_check_names) = true)
    (a_in_order : PySem.W.nsIn K mainGlobals "in_order" = some (some (.ref f_in_order)))
    (l_in_order : K.lookup f_in_order = some ⟨oc_in_order, od_in_order, .func (PySem.W.fnOf "in_order" "in_order" (defArgs s_in_order) (defBody s_in_order) (defScope s_in_order) .none kV_in_order dc_in_order pm_in_order an_in_order cd_in_order ct_in_order), sl_in_order⟩)
    (c_in_order : PySem.W.codeIn K cd_in_order "in_order" = true)
    (k_in_order : PySem.W.keepIn K (.ref f_in_order) = true)
    (a__law_word : PySem.W.nsIn K mainGlobals "_law_word" = some (some (.ref f__law_word)))
    (l__law_word : K.lookup f__law_word = some ⟨oc__law_word, od__law_word, .func (PySem.W.fnOf "_law_word" "_law_word" (defArgs s__law_word) (defBody s__law_word) (defScope s__law_word) .none kV__law_word dc__law_word pm__law_word an__law_word cd__law_word ct__law_word), sl__law_word⟩)
    (c__law_word : PySem.W.codeIn K cd__law_word "_law_word" = true)
    (k__law_word : PySem.W.keepIn K (.ref f__law_word) = true)
    (a__law_subset : PySem.W.nsIn K mainGlobals "_law_subset" = some (some (.ref f__law_subset)))
    (l__law_subset : K.lookup f__law_subset = some ⟨oc__law_subset, od__law_subset, .func (PySem.W.fnOf "_law_subset" "_law_subset" (defArgs s__law_subset) (defBody s__law_subset) (defScope s__law_subset) .none kV__law_subset dc__law_subset pm__law_subset an__law_subset cd__law_subset ct__law_subset), sl__law_subset⟩)
    (c__law_subset : PySem.W.codeIn K cd__law_subset "_law_subset" = true)
    (k__law_subset : PySem.W.keepIn K (.ref f__law_subset) = true)
    (a__law_any : PySem.W.nsIn K mainGlobals "_law_any" = some (some (.ref f__law_any)))
    (l__law_any : K.lookup f__law_any = some ⟨oc__law_any, od__law_any, .func (PySem.W.fnOf "_law_any" "_law_any" (defArgs s__law_any) (defBody s__law_any) (defScope s__law_any) .none kV__law_any dc__law_any pm__law_any an__law_any cd__law_any ct__law_any), sl__law_any⟩)
    (c__law_any : PySem.W.codeIn K cd__law_any "_law_any" = true)
    (k__law_any : PySem.W.keepIn K (.ref f__law_any) = true)
    (a_place_line : PySem.W.nsIn K mainGlobals "place_line" = some (some (.ref f_place_line)))
    (l_place_line : K.lookup f_place_line = some ⟨oc_place_line, od_place_line, .func (PySem.W.fnOf "place_line" "place_line" (defArgs s_place_line) (defBody s_place_line) (defScope s_place_line) .none kV_place_line dc_place_line pm_place_line an_place_line cd_place_line ct_place_line), sl_place_line⟩)
    (c_place_line : PySem.W.codeIn K cd_place_line "place_line" = true)
    (k_place_line : PySem.W.keepIn K (.ref f_place_line) = true)
    (a_step_line : PySem.W.nsIn K mainGlobals "step_line" = some (some (.ref f_step_line)))
    (l_step_line : K.lookup f_step_line = some ⟨oc_step_line, od_step_line, .func (PySem.W.fnOf "step_line" "step_line" (defArgs s_step_line) (defBody s_step_line) (defScope s_step_line) .none kV_step_line dc_step_line pm_step_line an_step_line cd_step_line ct_step_line), sl_step_line⟩)
    (c_step_line : PySem.W.codeIn K cd_step_line "step_line" = true)
    (k_step_line : PySem.W.keepIn K (.ref f_step_line) = true)
    (a_write_plan : PySem.W.nsIn K mainGlobals "write_plan" = some (some (.ref f_write_plan)))
    (l_write_plan : K.lookup f_write_plan = some ⟨oc_write_plan, od_write_plan, .func (PySem.W.fnOf "write_plan" "write_plan" (defArgs s_write_plan) (defBody s_write_plan) (defScope s_write_plan) .none kV_write_plan dc_write_plan pm_write_plan an_write_plan cd_write_plan ct_write_plan), sl_write_plan⟩)
    (c_write_plan : PySem.W.codeIn K cd_write_plan "write_plan" = true)
    (k_write_plan : PySem.W.keepIn K (.ref f_write_plan) = true)
    (a__law_mixed : PySem.W.nsIn K mainGlobals "_law_mixed" = some (some (.ref f__law_mixed)))
    (l__law_mixed : K.lookup f__law_mixed = some ⟨oc__law_mixed, od__law_mixed, .func (PySem.W.fnOf "_law_mixed" "_law_mixed" (defArgs s__law_mixed) (defBody s__law_mixed) (defScope s__law_mixed) .none kV__law_mixed dc__law_mixed pm__law_mixed an__law_mixed cd__law_mixed ct__law_mixed), sl__law_mixed⟩)
    (c__law_mixed : PySem.W.codeIn K cd__law_mixed "_law_mixed" = true)
    (k__law_mixed : PySem.W.keepIn K (.ref f__law_mixed) = true)
    (a__law_plan : PySem.W.nsIn K mainGlobals "_law_plan" = some (some (.ref f__law_plan)))
    (l__law_plan : K.lookup f__law_plan = some ⟨oc__law_plan, od__law_plan, .func (PySem.W.fnOf "_law_plan" "_law_plan" (defArgs s__law_plan) (defBody s__law_plan) (defScope s__law_plan) .none kV__law_plan dc__law_plan pm__law_plan an__law_plan cd__law_plan ct__law_plan), sl__law_plan⟩)
    (c__law_plan : PySem.W.codeIn K cd__law_plan "_law_plan" = true)
    (k__law_plan : PySem.W.keepIn K (.ref f__law_plan) = true)
    (a__law_lines : PySem.W.nsIn K mainGlobals "_law_lines" = some (some (.ref f__law_lines)))
    (l__law_lines : K.lookup f__law_lines = some ⟨oc__law_lines, od__law_lines, .func (PySem.W.fnOf "_law_lines" "_law_lines" (defArgs s__law_lines) (defBody s__law_lines) (defScope s__law_lines) .none kV__law_lines dc__law_lines pm__law_lines an__law_lines cd__law_lines ct__law_lines), sl__law_lines⟩)
    (c__law_lines : PySem.W.codeIn K cd__law_lines "_law_lines" = true)
    (k__law_lines : PySem.W.keepIn K (.ref f__law_lines) = true)
    (a__law_orderly : PySem.W.nsIn K mainGlobals "_law_orderly" = some (some (.ref f__law_orderly)))
    (l__law_orderly : K.lookup f__law_orderly = some ⟨oc__law_orderly, od__law_orderly, .func (PySem.W.fnOf "_law_orderly" "_law_orderly" (defArgs s__law_orderly) (defBody s__law_orderly) (defScope s__law_orderly) .none kV__law_orderly dc__law_orderly pm__law_orderly an__law_orderly cd__law_orderly ct__law_orderly), sl__law_orderly⟩)
    (c__law_orderly : PySem.W.codeIn K cd__law_orderly "_law_orderly" = true)
    (k__law_orderly : PySem.W.keepIn K (.ref f__law_orderly) = true)
    (a_law : PySem.W.nsIn K mainGlobals "law" = some (some (.ref f_law)))
    (l_law : K.lookup f_law = some ⟨oc_law, od_law, .func (PySem.W.fnOf "law" "law" (defArgs s_law) (defBody s_law) (defScope s_law) .none kV_law dc_law pm_law an_law cd_law ct_law), sl_law⟩)
    (c_law : PySem.W.codeIn K cd_law "law" = true)
    (k_law : PySem.W.keepIn K (.ref f_law) = true)
    (e_opq : PySem.W.nsIn K cStatics "thirdparty.any" = some none)
    (e_cg : PySem.W.specialIn K (.builtin "object.__class__") "__get__" = some (some (.builtin "getset_descriptor.__get__")))
    (e_ct : PySem.W.takesIn K (.builtin "object.__class__") = some true)
    (aC_TooMany : PySem.W.nsIn K mainGlobals "TooMany" = some (some (.ref C_TooMany)))
    (xL_TooMany : K.lookup C_TooMany = some (excClassObj nm_TooMany q_TooMany C_TooMany N_TooMany bs_TooMany bm_TooMany true sn_TooMany sub_TooMany ab_TooMany col_TooMany dd_TooMany m0_TooMany m1_TooMany m2_TooMany m3_TooMany m5_TooMany "ValueError.__new__"))
    (bm_TooMany : PySem.HandSPX.refsVE bm_TooMany = true)
    (sa_TooMany : PySem.W.findIn K (.ref C_TooMany) "__setattr__" = some (some (.builtin "object.__setattr__")))
    (ga_TooMany : PySem.W.findIn K (.ref C_TooMany) "__getattribute__" = some (some (.builtin "BaseException.__getattribute__")))
    (gg_TooMany : PySem.W.findIn K (.ref C_TooMany) "__getattr__" = some none)
    (no_kind_TooMany : PySem.W.findIn K (.ref C_TooMany) "kind" = some none)
    (no_limit_TooMany : PySem.W.findIn K (.ref C_TooMany) "limit" = some none)
    (iC_TooMany : PySem.W.findIn K (.ref C_TooMany) "__init__" = some (some (.ref fI_TooMany)))
    (tI_TooMany : PySem.W.typeIn K (.ref fI_TooMany) = some (.type "function"))
    (kC_TooMany : PySem.W.keepIn K (.ref C_TooMany) = true)
    (ex_TooMany : PySem.W.subIn K (.ref C_TooMany) (.type "BaseException") = some true)
    (ve_TooMany : PySem.W.subIn K (.ref C_TooMany) (.type "ValueError") = some true)
    (ty_TooMany : PySem.W.typeIn K (.ref C_TooMany) = some (.type "type"))
    (hd_TooMany : PySem.W.hasDictIn K C_TooMany = true)
    (sup_TooMany : PySem.W.ks_superIn K C_TooMany C_TooMany "__init__" = some (some (.builtin "ValueError.__init__")))
    (mro_TooMany : PySem.W.mroIn K C_TooMany (.ref C_TooMany) = some true)
    (su_TooMany : PySem.W.subIn K (.ref C_TooMany) (.ref C_TooMany) = some true)
    (ca_TooMany : PySem.W.findIn K (.ref C_TooMany) "__class__" = some (some (.builtin "object.__class__")))
    (mo_TooMany : PySem.W.mroIn K C_TooMany (.type "object") = some true)
    (l_TooMany : K.lookup fI_TooMany = some ⟨oc_TooMany, od_TooMany, .func (PySem.W.ksFn "__init__" "TooMany.__init__" (defArgs (inClass (topS 8) 0)) (defBody (inClass (topS 8) 0)) (defScope (inClass (topS 8) 0)) .none kV_TooMany dc_TooMany pm_TooMany an_TooMany (.ref cda_TooMany) ct_TooMany cc_TooMany), sl_TooMany⟩)
    (c_TooMany : PySem.W.codeIn K (.ref cda_TooMany) "TooMany.__init__" = true)
    (lc_TooMany : K.lookup cda_TooMany = some ⟨ccl_TooMany, cdd_TooMany, .fields vs_TooMany, ccs_TooMany⟩)
    (v2_TooMany : vs_TooMany[2]? = some (.str file_TooMany tf_TooMany))
    (fl_TooMany : ((P.main.file : Str) == file_TooMany) = true)
    (cc_TooMany : K.lookup cc_TooMany = some ⟨cl_TooMany, cld_TooMany, .cell (some (.ref C_TooMany)), csl_TooMany⟩)
    (aC_BadWord : PySem.W.nsIn K mainGlobals "BadWord" = some (some (.ref C_BadWord)))
    (xL_BadWord : K.lookup C_BadWord = some (excClassObj nm_BadWord q_BadWord C_BadWord N_BadWord bs_BadWord bm_BadWord true sn_BadWord sub_BadWord ab_BadWord col_BadWord dd_BadWord m0_BadWord m1_BadWord m2_BadWord m3_BadWord m5_BadWord "ValueError.__new__"))
    (bm_BadWord : PySem.HandSPX.refsVE bm_BadWord = true)
    (sa_BadWord : PySem.W.findIn K (.ref C_BadWord) "__setattr__" = some (some (.builtin "object.__setattr__")))
    (ga_BadWord : PySem.W.findIn K (.ref C_BadWord) "__getattribute__" = some (some (.builtin "BaseException.__getattribute__")))
    (gg_BadWord : PySem.W.findIn K (.ref C_BadWord) "__getattr__" = some none)
    (no_word_BadWord : PySem.W.findIn K (.ref C_BadWord) "word" = some none)
    (iC_BadWord : PySem.W.findIn K (.ref C_BadWord) "__init__" = some (some (.ref fI_BadWord)))
    (tI_BadWord : PySem.W.typeIn K (.ref fI_BadWord) = some (.type "function"))
    (kC_BadWord : PySem.W.keepIn K (.ref C_BadWord) = true)
    (ex_BadWord : PySem.W.subIn K (.ref C_BadWord) (.type "BaseException") = some true)
    (ve_BadWord : PySem.W.subIn K (.ref C_BadWord) (.type "ValueError") = some true)
    (ty_BadWord : PySem.W.typeIn K (.ref C_BadWord) = some (.type "type"))
    (hd_BadWord : PySem.W.hasDictIn K C_BadWord = true)
    (sup_BadWord : PySem.W.ks_superIn K C_BadWord C_BadWord "__init__" = some (some (.builtin "ValueError.__init__")))
    (mro_BadWord : PySem.W.mroIn K C_BadWord (.ref C_BadWord) = some true)
    (su_BadWord : PySem.W.subIn K (.ref C_BadWord) (.ref C_BadWord) = some true)
    (ca_BadWord : PySem.W.findIn K (.ref C_BadWord) "__class__" = some (some (.builtin "object.__class__")))
    (mo_BadWord : PySem.W.mroIn K C_BadWord (.type "object") = some true)
    (l_BadWord : K.lookup fI_BadWord = some ⟨oc_BadWord, od_BadWord, .func (PySem.W.ksFn "__init__" "BadWord.__init__" (defArgs (inClass (topS 3) 0)) (defBody (inClass (topS 3) 0)) (defScope (inClass (topS 3) 0)) .none kV_BadWord dc_BadWord pm_BadWord an_BadWord (.ref cda_BadWord) ct_BadWord cc_BadWord), sl_BadWord⟩)
    (c_BadWord : PySem.W.codeIn K (.ref cda_BadWord) "BadWord.__init__" = true)
    (lc_BadWord : K.lookup cda_BadWord = some ⟨ccl_BadWord, cdd_BadWord, .fields vs_BadWord, ccs_BadWord⟩)
    (v2_BadWord : vs_BadWord[2]? = some (.str file_BadWord tf_BadWord))
    (fl_BadWord : ((P.main.file : Str) == file_BadWord) = true)
    (cc_BadWord : K.lookup cc_BadWord = some ⟨cl_BadWord, cld_BadWord, .cell (some (.ref C_BadWord)), csl_BadWord⟩)
    (aC_DoubleName : PySem.W.nsIn K mainGlobals "DoubleName" = some (some (.ref C_DoubleName)))
    (xL_DoubleName : K.lookup C_DoubleName = some (excClassObj nm_DoubleName q_DoubleName C_DoubleName N_DoubleName bs_DoubleName bm_DoubleName true sn_DoubleName sub_DoubleName ab_DoubleName col_DoubleName dd_DoubleName m0_DoubleName m1_DoubleName m2_DoubleName m3_DoubleName m5_DoubleName "ValueError.__new__"))
    (bm_DoubleName : PySem.HandSPX.refsVE bm_DoubleName = true)
    (sa_DoubleName : PySem.W.findIn K (.ref C_DoubleName) "__setattr__" = some (some (.builtin "object.__setattr__")))
    (ga_DoubleName : PySem.W.findIn K (.ref C_DoubleName) "__getattribute__" = some (some (.builtin "BaseException.__getattribute__")))
    (gg_DoubleName : PySem.W.findIn K (.ref C_DoubleName) "__getattr__" = some none)
    (no_name_DoubleName : PySem.W.findIn K (.ref C_DoubleName) "name" = some none)
    (iC_DoubleName : PySem.W.findIn K (.ref C_DoubleName) "__init__" = some (some (.ref fI_DoubleName)))
    (tI_DoubleName : PySem.W.typeIn K (.ref fI_DoubleName) = some (.type "function"))
    (kC_DoubleName : PySem.W.keepIn K (.ref C_DoubleName) = true)
    (ex_DoubleName : PySem.W.subIn K (.ref C_DoubleName) (.type "BaseException") = some true)
    (ve_DoubleName : PySem.W.subIn K (.ref C_DoubleName) (.type "ValueError") = some true)
    (ty_DoubleName : PySem.W.typeIn K (.ref C_DoubleName) = some (.type "type"))
    (hd_DoubleName : PySem.W.hasDictIn K C_DoubleName = true)
    (sup_DoubleName : PySem.W.ks_superIn K C_DoubleName C_DoubleName "__init__" = some (some (.builtin "ValueError.__init__")))
    (mro_DoubleName : PySem.W.mroIn K C_DoubleName (.ref C_DoubleName) = some true)
    (su_DoubleName : PySem.W.subIn K (.ref C_DoubleName) (.ref C_DoubleName) = some true)
    (ca_DoubleName : PySem.W.findIn K (.ref C_DoubleName) "__class__" = some (some (.builtin "object.__class__")))
    (mo_DoubleName : PySem.W.mroIn K C_DoubleName (.type "object") = some true)
    (l_DoubleName : K.lookup fI_DoubleName = some ⟨oc_DoubleName, od_DoubleName, .func (PySem.W.ksFn "__init__" "DoubleName.__init__" (defArgs (inClass (topS 6) 0)) (defBody (inClass (topS 6) 0)) (defScope (inClass (topS 6) 0)) .none kV_DoubleName dc_DoubleName pm_DoubleName an_DoubleName (.ref cda_DoubleName) ct_DoubleName cc_DoubleName), sl_DoubleName⟩)
    (c_DoubleName : PySem.W.codeIn K (.ref cda_DoubleName) "DoubleName.__init__" = true)
    (lc_DoubleName : K.lookup cda_DoubleName = some ⟨ccl_DoubleName, cdd_DoubleName, .fields vs_DoubleName, ccs_DoubleName⟩)
    (v2_DoubleName : vs_DoubleName[2]? = some (.str file_DoubleName tf_DoubleName))
    (fl_DoubleName : ((P.main.file : Str) == file_DoubleName) = true)
    (cc_DoubleName : K.lookup cc_DoubleName = some ⟨cl_DoubleName, cld_DoubleName, .cell (some (.ref C_DoubleName)), csl_DoubleName⟩)
    (aC_BadNumber : PySem.W.nsIn K mainGlobals "BadNumber" = some (some (.ref C_BadNumber)))
    (xL_BadNumber : K.lookup C_BadNumber = some (excClassObj nm_BadNumber q_BadNumber C_BadNumber N_BadNumber bs_BadNumber bm_BadNumber true sn_BadNumber sub_BadNumber ab_BadNumber col_BadNumber dd_BadNumber m0_BadNumber m1_BadNumber m2_BadNumber m3_BadNumber m5_BadNumber "ValueError.__new__"))
    (bm_BadNumber : PySem.HandSPX.refsVE bm_BadNumber = true)
    (sa_BadNumber : PySem.W.findIn K (.ref C_BadNumber) "__setattr__" = some (some (.builtin "object.__setattr__")))
    (ga_BadNumber : PySem.W.findIn K (.ref C_BadNumber) "__getattribute__" = some (some (.builtin "BaseException.__getattribute__")))
    (gg_BadNumber : PySem.W.findIn K (.ref C_BadNumber) "__getattr__" = some none)
    (no_number_BadNumber : PySem.W.findIn K (.ref C_BadNumber) "number" = some none)
    (iC_BadNumber : PySem.W.findIn K (.ref C_BadNumber) "__init__" = some (some (.ref fI_BadNumber)))
    (tI_BadNumber : PySem.W.typeIn K (.ref fI_BadNumber) = some (.type "function"))
    (kC_BadNumber : PySem.W.keepIn K (.ref C_BadNumber) = true)
    (ex_BadNumber : PySem.W.subIn K (.ref C_BadNumber) (.type "BaseException") = some true)
    (ve_BadNumber : PySem.W.subIn K (.ref C_BadNumber) (.type "ValueError") = some true)
    (ty_BadNumber : PySem.W.typeIn K (.ref C_BadNumber) = some (.type "type"))
    (hd_BadNumber : PySem.W.hasDictIn K C_BadNumber = true)
    (sup_BadNumber : PySem.W.ks_superIn K C_BadNumber C_BadNumber "__init__" = some (some (.builtin "ValueError.__init__")))
    (mro_BadNumber : PySem.W.mroIn K C_BadNumber (.ref C_BadNumber) = some true)
    (su_BadNumber : PySem.W.subIn K (.ref C_BadNumber) (.ref C_BadNumber) = some true)
    (ca_BadNumber : PySem.W.findIn K (.ref C_BadNumber) "__class__" = some (some (.builtin "object.__class__")))
    (mo_BadNumber : PySem.W.mroIn K C_BadNumber (.type "object") = some true)
    (l_BadNumber : K.lookup fI_BadNumber = some ⟨oc_BadNumber, od_BadNumber, .func (PySem.W.ksFn "__init__" "BadNumber.__init__" (defArgs (inClass (topS 4) 0)) (defBody (inClass (topS 4) 0)) (defScope (inClass (topS 4) 0)) .none kV_BadNumber dc_BadNumber pm_BadNumber an_BadNumber (.ref cda_BadNumber) ct_BadNumber cc_BadNumber), sl_BadNumber⟩)
    (c_BadNumber : PySem.W.codeIn K (.ref cda_BadNumber) "BadNumber.__init__" = true)
    (lc_BadNumber : K.lookup cda_BadNumber = some ⟨ccl_BadNumber, cdd_BadNumber, .fields vs_BadNumber, ccs_BadNumber⟩)
    (v2_BadNumber : vs_BadNumber[2]? = some (.str file_BadNumber tf_BadNumber))
    (fl_BadNumber : ((P.main.file : Str) == file_BadNumber) = true)
    (cc_BadNumber : K.lookup cc_BadNumber = some ⟨cl_BadNumber, cld_BadNumber, .cell (some (.ref C_BadNumber)), csl_BadNumber⟩)
    (aC_EmptyStep : PySem.W.nsIn K mainGlobals "EmptyStep" = some (some (.ref C_EmptyStep)))
    (xL_EmptyStep : K.lookup C_EmptyStep = some (excClassObj nm_EmptyStep q_EmptyStep C_EmptyStep N_EmptyStep bs_EmptyStep bm_EmptyStep true sn_EmptyStep sub_EmptyStep ab_EmptyStep col_EmptyStep dd_EmptyStep m0_EmptyStep m1_EmptyStep m2_EmptyStep m3_EmptyStep m5_EmptyStep "ValueError.__new__"))
    (bm_EmptyStep : PySem.HandSPX.refsVE bm_EmptyStep = true)
    (sa_EmptyStep : PySem.W.findIn K (.ref C_EmptyStep) "__setattr__" = some (some (.builtin "object.__setattr__")))
    (ga_EmptyStep : PySem.W.findIn K (.ref C_EmptyStep) "__getattribute__" = some (some (.builtin "BaseException.__getattribute__")))
    (gg_EmptyStep : PySem.W.findIn K (.ref C_EmptyStep) "__getattr__" = some none)
    (no_name_EmptyStep : PySem.W.findIn K (.ref C_EmptyStep) "name" = some none)
    (iC_EmptyStep : PySem.W.findIn K (.ref C_EmptyStep) "__init__" = some (some (.ref fI_EmptyStep)))
    (tI_EmptyStep : PySem.W.typeIn K (.ref fI_EmptyStep) = some (.type "function"))
    (kC_EmptyStep : PySem.W.keepIn K (.ref C_EmptyStep) = true)
    (ex_EmptyStep : PySem.W.subIn K (.ref C_EmptyStep) (.type "BaseException") = some true)
    (ve_EmptyStep : PySem.W.subIn K (.ref C_EmptyStep) (.type "ValueError") = some true)
    (ty_EmptyStep : PySem.W.typeIn K (.ref C_EmptyStep) = some (.type "type"))
    (hd_EmptyStep : PySem.W.hasDictIn K C_EmptyStep = true)
    (sup_EmptyStep : PySem.W.ks_superIn K C_EmptyStep C_EmptyStep "__init__" = some (some (.builtin "ValueError.__init__")))
    (mro_EmptyStep : PySem.W.mroIn K C_EmptyStep (.ref C_EmptyStep) = some true)
    (su_EmptyStep : PySem.W.subIn K (.ref C_EmptyStep) (.ref C_EmptyStep) = some true)
    (ca_EmptyStep : PySem.W.findIn K (.ref C_EmptyStep) "__class__" = some (some (.builtin "object.__class__")))
    (mo_EmptyStep : PySem.W.mroIn K C_EmptyStep (.type "object") = some true)
    (l_EmptyStep : K.lookup fI_EmptyStep = some ⟨oc_EmptyStep, od_EmptyStep, .func (PySem.W.ksFn "__init__" "EmptyStep.__init__" (defArgs (inClass (topS 7) 0)) (defBody (inClass (topS 7) 0)) (defScope (inClass (topS 7) 0)) .none kV_EmptyStep dc_EmptyStep pm_EmptyStep an_EmptyStep (.ref cda_EmptyStep) ct_EmptyStep cc_EmptyStep), sl_EmptyStep⟩)
    (c_EmptyStep : PySem.W.codeIn K (.ref cda_EmptyStep) "EmptyStep.__init__" = true)
    (lc_EmptyStep : K.lookup cda_EmptyStep = some ⟨ccl_EmptyStep, cdd_EmptyStep, .fields vs_EmptyStep, ccs_EmptyStep⟩)
    (v2_EmptyStep : vs_EmptyStep[2]? = some (.str file_EmptyStep tf_EmptyStep))
    (fl_EmptyStep : ((P.main.file : Str) == file_EmptyStep) = true)
    (cc_EmptyStep : K.lookup cc_EmptyStep = some ⟨cl_EmptyStep, cld_EmptyStep, .cell (some (.ref C_EmptyStep)), csl_EmptyStep⟩)
    (aC_UnknownName : PySem.W.nsIn K mainGlobals "UnknownName" = some (some (.ref C_UnknownName)))
    (xL_UnknownName : K.lookup C_UnknownName = some (excClassObj nm_UnknownName q_UnknownName C_UnknownName N_UnknownName bs_UnknownName bm_UnknownName true sn_UnknownName sub_UnknownName ab_UnknownName col_UnknownName dd_UnknownName m0_UnknownName m1_UnknownName m2_UnknownName m3_UnknownName m5_UnknownName "ValueError.__new__"))
    (bm_UnknownName : PySem.HandSPX.refsVE bm_UnknownName = true)
    (sa_UnknownName : PySem.W.findIn K (.ref C_UnknownName) "__setattr__" = some (some (.builtin "object.__setattr__")))
    (ga_UnknownName : PySem.W.findIn K (.ref C_UnknownName) "__getattribute__" = some (some (.builtin "BaseException.__getattribute__")))
    (gg_UnknownName : PySem.W.findIn K (.ref C_UnknownName) "__getattr__" = some none)
    (no_name_UnknownName : PySem.W.findIn K (.ref C_UnknownName) "name" = some none)
    (iC_UnknownName : PySem.W.findIn K (.ref C_UnknownName) "__init__" = some (some (.ref fI_UnknownName)))
    (tI_UnknownName : PySem.W.typeIn K (.ref fI_UnknownName) = some (.type "function"))
    (kC_UnknownName : PySem.W.keepIn K (.ref C_UnknownName) = true)
    (ex_UnknownName : PySem.W.subIn K (.ref C_UnknownName) (.type "BaseException") = some true)
    (ve_UnknownName : PySem.W.subIn K (.ref C_UnknownName) (.type "ValueError") = some true)
    (ty_UnknownName : PySem.W.typeIn K (.ref C_UnknownName) = some (.type "type"))
    (hd_UnknownName : PySem.W.hasDictIn K C_UnknownName = true)
    (sup_UnknownName : PySem.W.ks_superIn K C_UnknownName C_UnknownName "__init__" = some (some (.builtin "ValueError.__init__")))
    (mro_UnknownName : PySem.W.mroIn K C_UnknownName (.ref C_UnknownName) = some true)
    (su_UnknownName : PySem.W.subIn K (.ref C_UnknownName) (.ref C_UnknownName) = some true)
    (ca_UnknownName : PySem.W.findIn K (.ref C_UnknownName) "__class__" = some (some (.builtin "object.__class__")))
    (mo_UnknownName : PySem.W.mroIn K C_UnknownName (.type "object") = some true)
    (l_UnknownName : K.lookup fI_UnknownName = some ⟨oc_UnknownName, od_UnknownName, .func (PySem.W.ksFn "__init__" "UnknownName.__init__" (defArgs (inClass (topS 5) 0)) (defBody (inClass (topS 5) 0)) (defScope (inClass (topS 5) 0)) .none kV_UnknownName dc_UnknownName pm_UnknownName an_UnknownName (.ref cda_UnknownName) ct_UnknownName cc_UnknownName), sl_UnknownName⟩)
    (c_UnknownName : PySem.W.codeIn K (.ref cda_UnknownName) "UnknownName.__init__" = true)
    (lc_UnknownName : K.lookup cda_UnknownName = some ⟨ccl_UnknownName, cdd_UnknownName, .fields vs_UnknownName, ccs_UnknownName⟩)
    (v2_UnknownName : vs_UnknownName[2]? = some (.str file_UnknownName tf_UnknownName))
    (fl_UnknownName : ((P.main.file : Str) == file_UnknownName) = true)
    (cc_UnknownName : K.lookup cc_UnknownName = some ⟨cl_UnknownName, cld_UnknownName, .cell (some (.ref C_UnknownName)), csl_UnknownName⟩)
    (aC_Plan : PySem.W.nsIn K mainGlobals "Plan" = some (some (.ref C_Plan)))
    (pg_Plan : PySem.W.plainGet K C_Plan Str.empty = true)
    (hd_Plan : PySem.W.hasDictIn K C_Plan = true)
    (po_Plan : PySem.W.plainOver K C_Plan = true)
    (sa_Plan : PySem.W.findIn K (.ref C_Plan) "__setattr__" = some (some (.builtin "object.__setattr__")))
    (no_places_Plan : PySem.W.findIn K (.ref C_Plan) "places" = some none)
    (no_begin_Plan : PySem.W.findIn K (.ref C_Plan) "begin" = some none)
    (no_taken_Plan : PySem.W.findIn K (.ref C_Plan) "taken" = some none)
    (no_given_Plan : PySem.W.findIn K (.ref C_Plan) "given" = some none)
    (no_steps_Plan : PySem.W.findIn K (.ref C_Plan) "steps" = some none)
    (ca_Plan : PySem.W.findIn K (.ref C_Plan) "__class__" = some (some (.builtin "object.__class__")))
    (mo_Plan : PySem.W.mroIn K C_Plan (.type "object") = some true)
    (mk_Plan : PySem.W.makesIn K C_Plan = true)
    (kC_Plan : PySem.W.keepIn K (.ref C_Plan) = true)
    (a_Plan___init__ : PySem.W.findIn K (.ref C_Plan) "__init__" = some (some (.ref f_Plan___init__)))
    (i_Plan___init__ : PySem.W.isFn K (.ref f_Plan___init__) = true)
    (l_Plan___init__ : K.lookup f_Plan___init__ = some ⟨oc_Plan___init__, od_Plan___init__, .func (PySem.W.fnOf "__init__" "Plan.__init__" (defArgs s_Plan___init__) (defBody s_Plan___init__) (defScope s_Plan___init__) .none kV_Plan___init__ dc_Plan___init__ pm_Plan___init__ an_Plan___init__ cd_Plan___init__ ct_Plan___init__), sl_Plan___init__⟩)
    (c_Plan___init__ : PySem.W.codeIn K cd_Plan___init__ "Plan.__init__" = true)
    (k_Plan___init__ : PySem.W.keepIn K (.ref f_Plan___init__) = true)
    (a_Plan_put_step : PySem.W.findIn K (.ref C_Plan) "put_step" = some (some (.ref f_Plan_put_step)))
    (i_Plan_put_step : PySem.W.isFn K (.ref f_Plan_put_step) = true)
    (l_Plan_put_step : K.lookup f_Plan_put_step = some ⟨oc_Plan_put_step, od_Plan_put_step, .func (PySem.W.fnOf "put_step" "Plan.put_step" (defArgs s_Plan_put_step) (defBody s_Plan_put_step) (defScope s_Plan_put_step) .none kV_Plan_put_step dc_Plan_put_step pm_Plan_put_step an_Plan_put_step cd_Plan_put_step ct_Plan_put_step), sl_Plan_put_step⟩)
    (c_Plan_put_step : PySem.W.codeIn K cd_Plan_put_step "Plan.put_step" = true)
    (k_Plan_put_step : PySem.W.keepIn K (.ref f_Plan_put_step) = true)
    (a_Plan_place_rows : PySem.W.findIn K (.ref C_Plan) "place_rows" = some (some (.ref f_Plan_place_rows)))
    (i_Plan_place_rows : PySem.W.isFn K (.ref f_Plan_place_rows) = true)
    (l_Plan_place_rows : K.lookup f_Plan_place_rows = some ⟨oc_Plan_place_rows, od_Plan_place_rows, .func (PySem.W.fnOf "place_rows" "Plan.place_rows" (defArgs s_Plan_place_rows) (defBody s_Plan_place_rows) (defScope s_Plan_place_rows) .none kV_Plan_place_rows dc_Plan_place_rows pm_Plan_place_rows an_Plan_place_rows cd_Plan_place_rows ct_Plan_place_rows), sl_Plan_place_rows⟩)
    (c_Plan_place_rows : PySem.W.codeIn K cd_Plan_place_rows "Plan.place_rows" = true)
    (k_Plan_place_rows : PySem.W.keepIn K (.ref f_Plan_place_rows) = true)
    (a_Plan_step_rows : PySem.W.findIn K (.ref C_Plan) "step_rows" = some (some (.ref f_Plan_step_rows)))
    (i_Plan_step_rows : PySem.W.isFn K (.ref f_Plan_step_rows) = true)
    (l_Plan_step_rows : K.lookup f_Plan_step_rows = some ⟨oc_Plan_step_rows, od_Plan_step_rows, .func (PySem.W.fnOf "step_rows" "Plan.step_rows" (defArgs s_Plan_step_rows) (defBody s_Plan_step_rows) (defScope s_Plan_step_rows) .none kV_Plan_step_rows dc_Plan_step_rows pm_Plan_step_rows an_Plan_step_rows cd_Plan_step_rows ct_Plan_step_rows), sl_Plan_step_rows⟩)
    (c_Plan_step_rows : PySem.W.codeIn K cd_Plan_step_rows "Plan.step_rows" = true)
    (k_Plan_step_rows : PySem.W.keepIn K (.ref f_Plan_step_rows) = true)
    (a_Plan___eq__ : PySem.W.findIn K (.ref C_Plan) "__eq__" = some (some (.ref f_Plan___eq__)))
    (i_Plan___eq__ : PySem.W.isFn K (.ref f_Plan___eq__) = true)
    (l_Plan___eq__ : K.lookup f_Plan___eq__ = some ⟨oc_Plan___eq__, od_Plan___eq__, .func (PySem.W.fnOf "__eq__" "Plan.__eq__" (defArgs s_Plan___eq__) (defBody s_Plan___eq__) (defScope s_Plan___eq__) .none kV_Plan___eq__ dc_Plan___eq__ pm_Plan___eq__ an_Plan___eq__ cd_Plan___eq__ ct_Plan___eq__), sl_Plan___eq__⟩)
    (c_Plan___eq__ : PySem.W.codeIn K cd_Plan___eq__ "Plan.__eq__" = true)
    (k_Plan___eq__ : PySem.W.keepIn K (.ref f_Plan___eq__) = true)
    (kt_Plan_Plan : PySem.W.kitOne K (.ref C_Plan) (.ref C_Plan) = some true) :
    ∃ fd : FuncData, (∀ (s : Shared) (v : Value), BindsTo s fd ⟨[v], []⟩ [("_law_script", v)]) ∧ ∀ base : Heap, K.In base → base.Ns mainGlobals mg → FnOk P w K mg base CX0 7 fa fd ["_law_script"] (spLaw K) := by
  have e := hfa.symm.trans (PySem.W.mg_of X G a_law)
  cases e
  have B : Bl mg := ⟨PySem.W.mg_none_of X G z_len, PySem.W.mg_none_of X G z_range, PySem.W.mg_none_of X G z_abs, PySem.W.mg_none_of X G z_sum, PySem.W.mg_none_of X G z_sorted, PySem.W.mg_none_of X G z_isinstance, PySem.W.mg_none_of X G z_zip, PySem.W.mg_none_of X G z_enumerate, PySem.W.mg_none_of X G z_reversed, PySem.W.mg_none_of X G z_int, PySem.W.mg_none_of X G z_str, PySem.W.mg_none_of X G z_list, PySem.W.mg_none_of X G z_tuple, PySem.W.mg_none_of X G z_bool, PySem.W.mg_none_of X G z_all, PySem.W.mg_none_of X G z_any, PySem.W.mg_none_of X G z_ValueError⟩
  have g_LETTERS := glo_str X G a_LETTERS
  have g_DIGITS := glo_str X G a_DIGITS
  have g_MOST_SIGNS := glo_int X G a_MOST_SIGNS
  have g_MOST_PLACES := glo_int X G a_MOST_PLACES
  have g_MOST_STEPS := glo_int X G a_MOST_STEPS
  have g_MOST_BEGIN := glo_int X G a_MOST_BEGIN
  have F__law_bag : Src K mg "_law_bag" s__law_bag ["_law_script"] := src_mk X G a__law_bag l__law_bag c__law_bag k__law_bag (fun _ _ _ _ _ _ us hl => match us, hl with | [_], _ => rfl)
  have F__law_draw : Src K mg "_law_draw" s__law_draw ["_law_bag_here", "_law_many"] := src_mk X G a__law_draw l__law_draw c__law_draw k__law_draw (fun _ _ _ _ _ _ us hl => match us, hl with | [_, _], _ => rfl)
  have F_is_word : Src K mg "is_word" s_is_word ["word"] := src_mk X G a_is_word l_is_word c_is_word k_is_word (fun _ _ _ _ _ _ us hl => match us, hl with | [_], _ => rfl)
  have F_check_word : Src K mg "check_word" s_check_word ["word"] := src_mk X G a_check_word l_check_word c_check_word k_check_word (fun _ _ _ _ _ _ us hl => match us, hl with | [_], _ => rfl)
  have F_check_number : Src K mg "check_number" s_check_number ["number", "least", "most"] := src_mk X G a_check_number l_check_number c_check_number k_check_number (fun _ _ _ _ _ _ us hl => match us, hl with | [_, _, _], _ => rfl)
  have F_check_names : Src K mg "check_names" s_check_names ["names", "known"] := src_mk X G a_check_names l_check_names c_check_names k_check_names (fun _ _ _ _ _ _ us hl => match us, hl with | [_, _], _ => rfl)
  have F_in_order : Src K mg "in_order" s_in_order ["names", "places"] := src_mk X G a_in_order l_in_order c_in_order k_in_order (fun _ _ _ _ _ _ us hl => match us, hl with | [_, _], _ => rfl)
  have F__law_word : Src K mg "_law_word" s__law_word ["_law_bag_here", "_law_used"] := src_mk X G a__law_word l__law_word c__law_word k__law_word (fun _ _ _ _ _ _ us hl => match us, hl with | [_, _], _ => rfl)
  have F__law_subset : Src K mg "_law_subset" s__law_subset ["_law_bag_here", "_law_words", "_law_least"] := src_mk X G a__law_subset l__law_subset c__law_subset k__law_subset (fun _ _ _ _ _ _ us hl => match us, hl with | [_, _, _], _ => rfl)
  have F__law_any : Src K mg "_law_any" s__law_any ["_law_bag_here", "_law_most", "_law_reach"] := src_mk X G a__law_any l__law_any c__law_any k__law_any (fun _ _ _ _ _ _ us hl => match us, hl with | [_, _, _], _ => rfl)
  have F_place_line : Src K mg "place_line" s_place_line ["word", "number"] := src_mk X G a_place_line l_place_line c_place_line k_place_line (fun _ _ _ _ _ _ us hl => match us, hl with | [_, _], _ => rfl)
  have F_step_line : Src K mg "step_line" s_step_line ["step", "takes", "gives"] := src_mk X G a_step_line l_step_line c_step_line k_step_line (fun _ _ _ _ _ _ us hl => match us, hl with | [_, _, _], _ => rfl)
  have F_write_plan : Src K mg "write_plan" s_write_plan ["plan"] := src_mk X G a_write_plan l_write_plan c_write_plan k_write_plan (fun _ _ _ _ _ _ us hl => match us, hl with | [_], _ => rfl)
  have F__law_mixed : Src K mg "_law_mixed" s__law_mixed ["_law_bag_here", "_law_rows"] := src_mk X G a__law_mixed l__law_mixed c__law_mixed k__law_mixed (fun _ _ _ _ _ _ us hl => match us, hl with | [_, _], _ => rfl)
  have F__law_plan : Src K mg "_law_plan" s__law_plan ["_law_plan_here"] := src_mk X G a__law_plan l__law_plan c__law_plan k__law_plan (fun _ _ _ _ _ _ us hl => match us, hl with | [_], _ => rfl)
  have F__law_lines : Src K mg "_law_lines" s__law_lines ["_law_plan_here"] := src_mk X G a__law_lines l__law_lines c__law_lines k__law_lines (fun _ _ _ _ _ _ us hl => match us, hl with | [_], _ => rfl)
  have F__law_orderly : Src K mg "_law_orderly" s__law_orderly ["_law_plan_here"] := src_mk X G a__law_orderly l__law_orderly c__law_orderly k__law_orderly (fun _ _ _ _ _ _ us hl => match us, hl with | [_], _ => rfl)
  have nn_TooMany : ∀ f ∈ (["kind", "limit"] : List Str), PySem.W.findIn K (.ref C_TooMany) f = some none := fun f hf => by
      simp only [List.mem_cons, List.not_mem_nil, or_false] at hf
      rcases hf with rfl | rfl
      · exact no_kind_TooMany
      · exact no_limit_TooMany
  have X_TooMany : ErrTxt P K mg true "TooMany" C_TooMany fI_TooMany ["kind", "limit"] := err_mk (st := inClass (topS 8) 0) (fp := [("kind", _, _, _, _), ("limit", _, _, _, _)]) X G aC_TooMany z_super xL_TooMany bm_TooMany sa_TooMany ga_TooMany gg_TooMany nn_TooMany
    iC_TooMany tI_TooMany kC_TooMany ex_TooMany ve_TooMany ty_TooMany hd_TooMany sup_TooMany mro_TooMany su_TooMany ca_TooMany e_cg e_ct mo_TooMany e_opq top l_TooMany c_TooMany lc_TooMany v2_TooMany fl_TooMany cc_TooMany rfl rfl rfl rfl (by decide +kernel) (by decide +kernel) (by decide +kernel) (by decide +kernel) (by decide +kernel) (by decide +kernel) (by decide +kernel) rfl rfl rfl
    (fun _ _ _ _ _ _ _ s x us hl => match us, hl with | [_, _], _ => .of_eq rfl) (fun x us hl => match us, hl with | [_, _], _ => ⟨by rfl, .cons (by rfl) (.cons (by rfl) (.nil))⟩) (.inr ⟨rfl, _, _, _, _, _, _, rfl, by decide, rfl⟩)
  have nn_BadWord : ∀ f ∈ (["word"] : List Str), PySem.W.findIn K (.ref C_BadWord) f = some none := fun f hf => by
      simp only [List.mem_cons, List.not_mem_nil, or_false] at hf
      rcases hf with rfl
      · exact no_word_BadWord
  have X_BadWord : ErrTxt P K mg false "BadWord" C_BadWord fI_BadWord ["word"] := err_mk (st := inClass (topS 3) 0) (fp := [("word", _, _, _, _)]) X G aC_BadWord z_super xL_BadWord bm_BadWord sa_BadWord ga_BadWord gg_BadWord nn_BadWord
    iC_BadWord tI_BadWord kC_BadWord ex_BadWord ve_BadWord ty_BadWord hd_BadWord sup_BadWord mro_BadWord su_BadWord ca_BadWord e_cg e_ct mo_BadWord e_opq top l_BadWord c_BadWord lc_BadWord v2_BadWord fl_BadWord cc_BadWord rfl rfl rfl rfl (by decide +kernel) (by decide +kernel) (by decide +kernel) (by decide +kernel) (by decide +kernel) (by decide +kernel) (by decide +kernel) rfl rfl rfl
    (fun _ _ _ _ _ _ _ s x us hl => match us, hl with | [_], _ => .of_eq rfl) (fun x us hl => match us, hl with | [_], _ => ⟨by rfl, .cons (by rfl) (.nil)⟩) (.inl ⟨rfl, _, _, _, rfl⟩)
  have nn_DoubleName : ∀ f ∈ (["name"] : List Str), PySem.W.findIn K (.ref C_DoubleName) f = some none := fun f hf => by
      simp only [List.mem_cons, List.not_mem_nil, or_false] at hf
      rcases hf with rfl
      · exact no_name_DoubleName
  have X_DoubleName : ErrTxt P K mg false "DoubleName" C_DoubleName fI_DoubleName ["name"] := err_mk (st := inClass (topS 6) 0) (fp := [("name", _, _, _, _)]) X G aC_DoubleName z_super xL_DoubleName bm_DoubleName sa_DoubleName ga_DoubleName gg_DoubleName nn_DoubleName
    iC_DoubleName tI_DoubleName kC_DoubleName ex_DoubleName ve_DoubleName ty_DoubleName hd_DoubleName sup_DoubleName mro_DoubleName su_DoubleName ca_DoubleName e_cg e_ct mo_DoubleName e_opq top l_DoubleName c_DoubleName lc_DoubleName v2_DoubleName fl_DoubleName cc_DoubleName rfl rfl rfl rfl (by decide +kernel) (by decide +kernel) (by decide +kernel) (by decide +kernel) (by decide +kernel) (by decide +kernel) (by decide +kernel) rfl rfl rfl
    (fun _ _ _ _ _ _ _ s x us hl => match us, hl with | [_], _ => .of_eq rfl) (fun x us hl => match us, hl with | [_], _ => ⟨by rfl, .cons (by rfl) (.nil)⟩) (.inl ⟨rfl, _, _, _, rfl⟩)
  have nn_BadNumber : ∀ f ∈ (["number"] : List Str), PySem.W.findIn K (.ref C_BadNumber) f = some none := fun f hf => by
      simp only [List.mem_cons, List.not_mem_nil, or_false] at hf
      rcases hf with rfl
      · exact no_number_BadNumber
  have X_BadNumber : ErrTxt P K mg false "BadNumber" C_BadNumber fI_BadNumber ["number"] := err_mk (st := inClass (topS 4) 0) (fp := [("number", _, _, _, _)]) X G aC_BadNumber z_super xL_BadNumber bm_BadNumber sa_BadNumber ga_BadNumber gg_BadNumber nn_BadNumber
    iC_BadNumber tI_BadNumber kC_BadNumber ex_BadNumber ve_BadNumber ty_BadNumber hd_BadNumber sup_BadNumber mro_BadNumber su_BadNumber ca_BadNumber e_cg e_ct mo_BadNumber e_opq top l_BadNumber c_BadNumber lc_BadNumber v2_BadNumber fl_BadNumber cc_BadNumber rfl rfl rfl rfl (by decide +kernel) (by decide +kernel) (by decide +kernel) (by decide +kernel) (by decide +kernel) (by decide +kernel) (by decide +kernel) rfl rfl rfl
    (fun _ _ _ _ _ _ _ s x us hl => match us, hl with | [_], _ => .of_eq rfl) (fun x us hl => match us, hl with | [_], _ => ⟨by rfl, .cons (by rfl) (.nil)⟩) (.inl ⟨rfl, _, _, _, rfl⟩)
  have nn_EmptyStep : ∀ f ∈ (["name"] : List Str), PySem.W.findIn K (.ref C_EmptyStep) f = some none := fun f hf => by
      simp only [List.mem_cons, List.not_mem_nil, or_false] at hf
      rcases hf with rfl
      · exact no_name_EmptyStep
  have X_EmptyStep : ErrTxt P K mg false "EmptyStep" C_EmptyStep fI_EmptyStep ["name"] := err_mk (st := inClass (topS 7) 0) (fp := [("name", _, _, _, _)]) X G aC_EmptyStep z_super xL_EmptyStep bm_EmptyStep sa_EmptyStep ga_EmptyStep gg_EmptyStep nn_EmptyStep
    iC_EmptyStep tI_EmptyStep kC_EmptyStep ex_EmptyStep ve_EmptyStep ty_EmptyStep hd_EmptyStep sup_EmptyStep mro_EmptyStep su_EmptyStep ca_EmptyStep e_cg e_ct mo_EmptyStep e_opq top l_EmptyStep c_EmptyStep lc_EmptyStep v2_EmptyStep fl_EmptyStep cc_EmptyStep rfl rfl rfl rfl (by decide +kernel) (by decide +kernel) (by decide +kernel) (by decide +kernel) (by decide +kernel) (by decide +kernel) (by decide +kernel) rfl rfl rfl
    (fun _ _ _ _ _ _ _ s x us hl => match us, hl with | [_], _ => .of_eq rfl) (fun x us hl => match us, hl with | [_], _ => ⟨by rfl, .cons (by rfl) (.nil)⟩) (.inl ⟨rfl, _, _, _, rfl⟩)
  have nn_UnknownName : ∀ f ∈ (["name"] : List Str), PySem.W.findIn K (.ref C_UnknownName) f = some none := fun f hf => by
      simp only [List.mem_cons, List.not_mem_nil, or_false] at hf
      rcases hf with rfl
      · exact no_name_UnknownName
  have X_UnknownName : ErrTxt P K mg false "UnknownName" C_UnknownName fI_UnknownName ["name"] := err_mk (st := inClass (topS 5) 0) (fp := [("name", _, _, _, _)]) X G aC_UnknownName z_super xL_UnknownName bm_UnknownName sa_UnknownName ga_UnknownName gg_UnknownName nn_UnknownName
    iC_UnknownName tI_UnknownName kC_UnknownName ex_UnknownName ve_UnknownName ty_UnknownName hd_UnknownName sup_UnknownName mro_UnknownName su_UnknownName ca_UnknownName e_cg e_ct mo_UnknownName e_opq top l_UnknownName c_UnknownName lc_UnknownName v2_UnknownName fl_UnknownName cc_UnknownName rfl rfl rfl rfl (by decide +kernel) (by decide +kernel) (by decide +kernel) (by decide +kernel) (by decide +kernel) (by decide +kernel) (by decide +kernel) rfl rfl rfl
    (fun _ _ _ _ _ _ _ s x us hl => match us, hl with | [_], _ => .of_eq rfl) (fun x us hl => match us, hl with | [_], _ => ⟨by rfl, .cons (by rfl) (.nil)⟩) (.inl ⟨rfl, _, _, _, rfl⟩)
  have FI_Plan : SrcI K C_Plan "Plan.__init__" s_Plan___init__ ["self", "places", "steps"] := srcI_mk mk_Plan kC_Plan a_Plan___init__ i_Plan___init__ l_Plan___init__ c_Plan___init__ k_Plan___init__ (fun _ _ _ _ _ _ us hl => match us, hl with | [_, _, _], _ => rfl)
  have FM_Plan_put_step : SrcM K C_Plan "put_step" "Plan.put_step" s_Plan_put_step ["self", "word", "takes", "gives"] := srcM_mk a_Plan_put_step i_Plan_put_step l_Plan_put_step c_Plan_put_step k_Plan_put_step (fun _ _ _ _ _ _ us hl => match us, hl with | [_, _, _, _], _ => rfl)
  have FM_Plan_place_rows : SrcM K C_Plan "place_rows" "Plan.place_rows" s_Plan_place_rows ["self"] := srcM_mk a_Plan_place_rows i_Plan_place_rows l_Plan_place_rows c_Plan_place_rows k_Plan_place_rows (fun _ _ _ _ _ _ us hl => match us, hl with | [_], _ => rfl)
  have FM_Plan_step_rows : SrcM K C_Plan "step_rows" "Plan.step_rows" s_Plan_step_rows ["self"] := srcM_mk a_Plan_step_rows i_Plan_step_rows l_Plan_step_rows c_Plan_step_rows k_Plan_step_rows (fun _ _ _ _ _ _ us hl => match us, hl with | [_], _ => rfl)
  have FM_Plan___eq__ : SrcM K C_Plan "__eq__" "Plan.__eq__" s_Plan___eq__ ["self", "other"] := srcM_mk a_Plan___eq__ i_Plan___eq__ l_Plan___eq__ c_Plan___eq__ k_Plan___eq__ (fun _ _ _ _ _ _ us hl => match us, hl with | [_, _], _ => rfl)
  have m_Plan := PySem.W.mg_of X G aC_Plan
  have CL_Plan : Cls K C_Plan := ⟨pg_Plan, hd_Plan, po_Plan, sa_Plan⟩
  refine ⟨PySem.W.fnOf "law" "law" (defArgs s_law) (defBody s_law) (defScope s_law) .none kV_law dc_law pm_law an_law cd_law ct_law, fun s v => .of_eq rfl, fun base hK hN => ?_⟩
  obtain ⟨cs, hcs⟩ : ∃ cs : EK → Addr, cs = fun k => match k with | .tooMany => C_TooMany | .badWord => C_BadWord | .double => C_DoubleName | .badNumber => C_BadNumber | .empty => C_EmptyStep | .unknown => C_UnknownName | .inUse => C_TooMany | .badState => C_TooMany | .notReady => C_TooMany | .notSound => C_TooMany | .badPair => C_TooMany | .badText => C_TooMany | .noUndo => C_TooMany := ⟨_, rfl⟩
  have X_TooMany : ErrTxt P K mg true "TooMany" (cs .tooMany) fI_TooMany ["kind", "limit"] := by rw [hcs]; exact X_TooMany
  have X_BadWord : ErrTxt P K mg false "BadWord" (cs .badWord) fI_BadWord ["word"] := by rw [hcs]; exact X_BadWord
  have X_DoubleName : ErrTxt P K mg false "DoubleName" (cs .double) fI_DoubleName ["name"] := by rw [hcs]; exact X_DoubleName
  have X_BadNumber : ErrTxt P K mg false "BadNumber" (cs .badNumber) fI_BadNumber ["number"] := by rw [hcs]; exact X_BadNumber
  have X_EmptyStep : ErrTxt P K mg false "EmptyStep" (cs .empty) fI_EmptyStep ["name"] := by rw [hcs]; exact X_EmptyStep
  have X_UnknownName : ErrTxt P K mg false "UnknownName" (cs .unknown) fI_UnknownName ["name"] := by rw [hcs]; exact X_UnknownName
  have O_Plan : IsO K C_Plan := ⟨CL_Plan, ca_Plan, e_cg, e_ct, mo_Plan⟩
  have T_Plan : PlanC K mg C_Plan := ⟨CL_Plan, m_Plan, no_places_Plan, no_begin_Plan, no_taken_Plan, no_given_Plan, no_steps_Plan⟩
  have P1 : Def P w K mg base CX0 1 "is_word" _ spIsWord := ok_is_word B g_LETTERS g_DIGITS g_MOST_SIGNS F_is_word
  have P2 : Def P w K mg base (L2.CX P w) 2 "check_word" _ (spA (preCheckWord (ecs cs))) := checkWordG (ok_check_word X_BadWord P1 F_check_word)
  have P3 : Def P w K mg base (L2.CX P w) 1 "check_number" _ (spA (preCheckNumber (ecs cs))) := checkNumberG (ok_check_number X_BadNumber F_check_number)
  have P4 : Def P w K mg base (L2.CX P w) 1 "check_names" _ (spA (preCheckNames (ecs cs))) := checkNamesG (ok_check_names B X_UnknownName X_DoubleName F_check_names)
  have P5 : Def P w K mg base (L2.CX P w) 2 "in_order" _ (spA (preInOrder (ecs cs))) := ok_in_orderG B P4 F_in_order
  have P6 : DefM P w K mg base (L2.CX P w) 3 C_Plan "put_step" _ (spC (prePut (ecs cs) C_Plan)) := ok_put_stepG B T_Plan X_DoubleName X_EmptyStep P2 P5 FM_Plan_put_step
  have DI_Plan := planW (cs := cs) (ok_plan_initG (cs := ecs cs) B T_Plan g_MOST_PLACES g_MOST_STEPS g_MOST_BEGIN X_TooMany X_DoubleName (P2.mono (by decide)) (P3.mono (by decide)) P6 FI_Plan)
  have D__law_bag := ok__law_bag (P := P) (w := w) (base := base) (k := 0) B F__law_bag
  have D__law_draw := ok__law_draw (P := P) (w := w) (base := base) (k := 0) B F__law_draw
  have D__law_word := ok__law_word (P := P) (w := w) (base := base) (cs := cs) (k := 1) B (D__law_draw.mono (by decide)) F__law_word
  have D__law_subset := ok__law_subset (P := P) (w := w) (base := base) (cs := cs) (k := 1) B (D__law_draw.mono (by decide)) F__law_subset
  have D__law_any := ok__law_any (P := P) (w := w) (base := base) (cs := cs) (k := 2) B (D__law_word.mono (by decide)) (D__law_draw.mono (by decide)) (D__law_subset.mono (by decide)) F__law_any
  have DM_Plan_place_rows := ok_Plan_place_rows (P := P) (w := w) (base := base) (cs := cs) (k := 0) B T_Plan FM_Plan_place_rows
  have DM_Plan_step_rows := ok_Plan_step_rows (P := P) (w := w) (base := base) (cs := cs) (k := 0) B T_Plan FM_Plan_step_rows
  have DM_Plan___eq__ := ok_Plan___eq__ (P := P) (w := w) (base := base) (cs := cs) (k := 0) B T_Plan O_Plan kt_Plan_Plan FM_Plan___eq__
  have D_place_line := ok_place_line (P := P) (w := w) (base := base) (cs := cs) (k := 0) B  F_place_line
  have D_step_line := ok_step_line (P := P) (w := w) (base := base) (cs := cs) (k := 0) B  F_step_line
  have D_write_plan := ok_write_plan (P := P) (w := w) (base := base) (cs := cs) (k := 1) B T_Plan (D_place_line.mono (by decide)) (D_step_line.mono (by decide)) (DM_Plan_place_rows.mono (by decide)) (DM_Plan_step_rows.mono (by decide)) F_write_plan
  have D__law_mixed := ok__law_mixed (P := P) (w := w) (base := base) (cs := cs) (k := 1) B (D__law_draw.mono (by decide)) F__law_mixed
  have D__law_plan := ok__law_plan (P := P) (w := w) (base := base) (cs := cs) (k := 4) B m_Plan (DI_Plan.mono (by decide)) F__law_plan
  have D__law_lines := ok__law_lines (P := P) (w := w) (base := base) (cs := cs) (k := 0) B  F__law_lines
  have D__law_orderly := ok__law_orderly (P := P) (w := w) (base := base) (cs := cs) (k := 0) B  F__law_orderly
  exact ok_law (P := P) (w := w) (base := base) (cs := cs) (k := 5) B (D__law_any.mono (by decide)) (D__law_draw.mono (by decide)) (D__law_mixed.mono (by decide)) (D__law_plan.mono (by decide)) (D_write_plan.mono (by decide)) (D__law_lines.mono (by decide)) (D__law_orderly.mono (by decide)) (DM_Plan___eq__.mono (by decide)) (D__law_bag.mono (by decide)) (fun_mk l_law c_law k_law) law_pure
theorem walk {l : PySem.W.OpenLaw} {q : Program} {loose : List Str} {XP : (Str → Option Value) → Heap → Prop} {YP : World → Heap → Prop} {d : DefRec} {K : Params → PySem.W.Frag} (hn : l.most = some 63) (hdf : d.params.defaults = [])
    (hY : ∀ (w : World) (h : Heap), YP w h → (K w.params).In h)
    (F : ∀ (w : World) (mg : Str → Option Value) (fa : Addr) (h : Heap), (K w.params).In h → h.Ns mainGlobals mg → mg d.name = some (.ref fa) →
      ∃ fd : FuncData, (∀ (s : Shared) (u : Value), BindsTo s fd ⟨[u], []⟩ [("_law_script", u)]) ∧ ∀ base : Heap, (K w.params).In base → base.Ns mainGlobals mg → FnOk l.prog w (K w.params) mg base CX0 7 fa fd ["_law_script"] (spLaw (K w.params))) :
    PySem.W.WalkO q loose XP YP l.row.toRowW d [] (fun f vs => PySem.call f vs) :=
  L2.walk_of (n := 63) (k := 7) (x := "_law_script") (CX := fun _ => CX0) (sp := fun w => spLaw (K w.params)) hn (by decide) hdf ⟨rfl, by decide, by decide⟩ hY F (fun _ _ a ns hl _ hS => ⟨a, ns, rfl, hS, hl, fun _ => rfl⟩) fun _ _ _ _ _ z => z
end Held

open PySem PySem.W PyProof.Rows in
set_option maxRecDepth 100000 in
set_option maxHeartbeats 0 in
theorem PySem.Challenge.cw_heldsteps_k61_plan_texts_holds : PySem.Challenge.rw_heldsteps_k61_plan_texts.Holds := by
  w_on; o_law; k_head; (case hw => w_witness2)
  k_fill
  refine Held.walk (l := PySem.Challenge.rw_heldsteps_k61_plan_texts) rfl rfl (fun w h Y => PySem.W.kIn_of Y) ?F
  case F =>
    intro w mg fa h KX G hmg
    refine' Held.all_mk KX G hmg (by decide +kernel) ?z_len ?z_range ?z_abs ?z_sum ?z_sorted ?z_isinstance ?z_zip ?z_enumerate ?z_reversed ?z_int ?z_str ?z_list ?z_tuple ?z_bool ?z_all ?z_any ?z_ValueError ?z_super ?a_LETTERS ?a_DIGITS ?a_MOST_SIGNS ?a_MOST_PLACES ?a_MOST_STEPS ?a_MOST_BEGIN ?a__law_bag ?l__law_bag ?c__law_bag ?k__law_bag ?a__law_draw ?l__law_draw ?c__law_draw ?k__law_draw ?a_is_word ?l_is_word ?c_is_word ?k_is_word ?a_check_word ?l_check_word ?c_check_word ?k_check_word ?a_check_number ?l_check_number ?c_check_number ?k_check_number ?a_check_names ?l_check_names ?c_check_names ?k_check_names ?a_in_order ?l_in_order ?c_in_order ?k_in_order ?a__law_word ?l__law_word ?c__law_word ?k__law_word ?a__law_subset ?l__law_subset ?c__law_subset ?k__law_subset ?a__law_any ?l__law_any ?c__law_any ?k__law_any ?a_place_line ?l_place_line ?c_place_line ?k_place_line ?a_step_line ?l_step_line ?c_step_line ?k_step_line ?a_write_plan ?l_write_plan ?c_write_plan ?k_write_plan ?a__law_mixed ?l__law_mixed ?c__law_mixed ?k__law_mixed ?a__law_plan ?l__law_plan ?c__law_plan ?k__law_plan ?a__law_lines ?l__law_lines ?c__law_lines ?k__law_lines ?a__law_orderly ?l__law_orderly ?c__law_orderly ?k__law_orderly ?a_law ?l_law ?c_law ?k_law ?e_opq ?e_cg ?e_ct ?aC_TooMany ?xL_TooMany ?bm_TooMany ?sa_TooMany ?ga_TooMany ?gg_TooMany ?no_kind_TooMany ?no_limit_TooMany ?iC_TooMany ?tI_TooMany ?kC_TooMany ?ex_TooMany ?ve_TooMany ?ty_TooMany ?hd_TooMany ?sup_TooMany ?mro_TooMany ?su_TooMany ?ca_TooMany ?mo_TooMany ?l_TooMany ?c_TooMany ?lc_TooMany ?v2_TooMany ?fl_TooMany ?cc_TooMany ?aC_BadWord ?xL_BadWord ?bm_BadWord ?sa_BadWord ?ga_BadWord ?gg_BadWord ?no_word_BadWord ?iC_BadWord ?tI_BadWord ?kC_BadWord ?ex_BadWord ?ve_BadWord ?ty_BadWord ?hd_BadWord ?sup_BadWord ?mro_BadWord ?su_BadWord ?ca_BadWord ?mo_BadWord ?l_BadWord ?c_BadWord ?lc_BadWord ?v2_BadWord ?fl_BadWord ?cc_BadWord ?aC_DoubleName ?xL_DoubleName ?bm_DoubleName ?sa_DoubleName ?ga_DoubleName ?gg_DoubleName ?no_name_DoubleName ?iC_DoubleName ?tI_DoubleName ?kC_DoubleName ?ex_DoubleName ?ve_DoubleName ?ty_DoubleName ?hd_DoubleName ?sup_DoubleName ?mro_DoubleName ?su_DoubleName ?ca_DoubleName ?mo_DoubleName ?l_DoubleName ?c_DoubleName ?lc_DoubleName ?v2_DoubleName ?fl_DoubleName ?cc_DoubleName ?aC_BadNumber ?xL_BadNumber ?bm_BadNumber ?sa_BadNumber ?ga_BadNumber ?gg_BadNumber ?no_number_BadNumber ?iC_BadNumber ?tI_BadNumber ?kC_BadNumber ?ex_BadNumber ?ve_BadNumber ?ty_BadNumber ?hd_BadNumber ?sup_BadNumber ?mro_BadNumber ?su_BadNumber ?ca_BadNumber ?mo_BadNumber ?l_BadNumber ?c_BadNumber ?lc_BadNumber ?v2_BadNumber ?fl_BadNumber ?cc_BadNumber ?aC_EmptyStep ?xL_EmptyStep ?bm_EmptyStep ?sa_EmptyStep ?ga_EmptyStep ?gg_EmptyStep ?no_name_EmptyStep ?iC_EmptyStep ?tI_EmptyStep ?kC_EmptyStep ?ex_EmptyStep ?ve_EmptyStep ?ty_EmptyStep ?hd_EmptyStep ?sup_EmptyStep ?mro_EmptyStep ?su_EmptyStep ?ca_EmptyStep ?mo_EmptyStep ?l_EmptyStep ?c_EmptyStep ?lc_EmptyStep ?v2_EmptyStep ?fl_EmptyStep ?cc_EmptyStep ?aC_UnknownName ?xL_UnknownName ?bm_UnknownName ?sa_UnknownName ?ga_UnknownName ?gg_UnknownName ?no_name_UnknownName ?iC_UnknownName ?tI_UnknownName ?kC_UnknownName ?ex_UnknownName ?ve_UnknownName ?ty_UnknownName ?hd_UnknownName ?sup_UnknownName ?mro_UnknownName ?su_UnknownName ?ca_UnknownName ?mo_UnknownName ?l_UnknownName ?c_UnknownName ?lc_UnknownName ?v2_UnknownName ?fl_UnknownName ?cc_UnknownName ?aC_Plan ?pg_Plan ?hd_Plan ?po_Plan ?sa_Plan ?no_places_Plan ?no_begin_Plan ?no_taken_Plan ?no_given_Plan ?no_steps_Plan ?ca_Plan ?mo_Plan ?mk_Plan ?kC_Plan ?a_Plan___init__ ?i_Plan___init__ ?l_Plan___init__ ?c_Plan___init__ ?k_Plan___init__ ?a_Plan_put_step ?i_Plan_put_step ?l_Plan_put_step ?c_Plan_put_step ?k_Plan_put_step ?a_Plan_place_rows ?i_Plan_place_rows ?l_Plan_place_rows ?c_Plan_place_rows ?k_Plan_place_rows ?a_Plan_step_rows ?i_Plan_step_rows ?l_Plan_step_rows ?c_Plan_step_rows ?k_Plan_step_rows ?a_Plan___eq__ ?i_Plan___eq__ ?l_Plan___eq__ ?c_Plan___eq__ ?k_Plan___eq__ ?kt_Plan_Plan
    (case z_len => k_is)
    (case z_range => k_is)
    (case z_abs => k_is)
    (case z_sum => k_is)
    (case z_sorted => k_is)
    (case z_isinstance => k_is)
    (case z_zip => k_is)
    (case z_enumerate => k_is)
    (case z_reversed => k_is)
    (case z_int => k_is)
    (case z_str => k_is)
    (case z_list => k_is)
    (case z_tuple => k_is)
    (case z_bool => k_is)
    (case z_all => k_is)
    (case z_any => k_is)
    (case z_ValueError => k_is)
    (case z_super => k_is)
    (case a_LETTERS => k_is)
    (case a_DIGITS => k_is)
    (case a_MOST_SIGNS => k_is)
    (case a_MOST_PLACES => k_is)
    (case a_MOST_STEPS => k_is)
    (case a_MOST_BEGIN => k_is)
    (case a__law_bag => k_is)
    (case l__law_bag => k_is)
    (case c__law_bag => k_is)
    (case k__law_bag => k_is)
    (case a__law_draw => k_is)
    (case l__law_draw => k_is)
    (case c__law_draw => k_is)
    (case k__law_draw => k_is)
    (case a_is_word => k_is)
    (case l_is_word => k_is)
    (case c_is_word => k_is)
    (case k_is_word => k_is)
    (case a_check_word => k_is)
    (case l_check_word => k_is)
    (case c_check_word => k_is)
    (case k_check_word => k_is)
    (case a_check_number => k_is)
    (case l_check_number => k_is)
    (case c_check_number => k_is)
    (case k_check_number => k_is)
    (case a_check_names => k_is)
    (case l_check_names => k_is)
    (case c_check_names => k_is)
    (case k_check_names => k_is)
    (case a_in_order => k_is)
    (case l_in_order => k_is)
    (case c_in_order => k_is)
    (case k_in_order => k_is)
    (case a__law_word => k_is)
    (case l__law_word => k_is)
    (case c__law_word => k_is)
    (case k__law_word => k_is)
    (case a__law_subset => k_is)
    (case l__law_subset => k_is)
    (case c__law_subset => k_is)
    (case k__law_subset => k_is)
    (case a__law_any => k_is)
    (case l__law_any => k_is)
    (case c__law_any => k_is)
    (case k__law_any => k_is)
    (case a_place_line => k_is)
    (case l_place_line => k_is)
    (case c_place_line => k_is)
    (case k_place_line => k_is)
    (case a_step_line => k_is)
    (case l_step_line => k_is)
    (case c_step_line => k_is)
    (case k_step_line => k_is)
    (case a_write_plan => k_is)
    (case l_write_plan => k_is)
    (case c_write_plan => k_is)
    (case k_write_plan => k_is)
    (case a__law_mixed => k_is)
    (case l__law_mixed => k_is)
    (case c__law_mixed => k_is)
    (case k__law_mixed => k_is)
    (case a__law_plan => k_is)
    (case l__law_plan => k_is)
    (case c__law_plan => k_is)
    (case k__law_plan => k_is)
    (case a__law_lines => k_is)
    (case l__law_lines => k_is)
    (case c__law_lines => k_is)
    (case k__law_lines => k_is)
    (case a__law_orderly => k_is)
    (case l__law_orderly => k_is)
    (case c__law_orderly => k_is)
    (case k__law_orderly => k_is)
    (case a_law => k_is)
    (case l_law => k_is)
    (case c_law => k_is)
    (case k_law => k_is)
    (case e_opq => k_is)
    (case e_cg => k_is)
    (case e_ct => k_is)
    (case aC_TooMany => k_is)
    (case xL_TooMany => k_is)
    (case bm_TooMany => rfl)
    (case sa_TooMany => k_is)
    (case ga_TooMany => k_is)
    (case gg_TooMany => k_is)
    (case no_kind_TooMany => k_is)
    (case no_limit_TooMany => k_is)
    (case iC_TooMany => k_is)
    (case tI_TooMany => k_is)
    (case kC_TooMany => k_is)
    (case ex_TooMany => k_is)
    (case ve_TooMany => k_is)
    (case ty_TooMany => k_is)
    (case hd_TooMany => k_is)
    (case sup_TooMany => ks_is)
    (case mro_TooMany => k_is)
    (case su_TooMany => first | rfl | k_is)
    (case ca_TooMany => k_is)
    (case mo_TooMany => k_is)
    (case l_TooMany => k_is)
    (case c_TooMany => k_is)
    (case lc_TooMany => k_is)
    (case v2_TooMany => rfl)
    (case fl_TooMany => first | rfl | decide +kernel)
    (case cc_TooMany => k_is)
    (case aC_BadWord => k_is)
    (case xL_BadWord => k_is)
    (case bm_BadWord => rfl)
    (case sa_BadWord => k_is)
    (case ga_BadWord => k_is)
    (case gg_BadWord => k_is)
    (case no_word_BadWord => k_is)
    (case iC_BadWord => k_is)
    (case tI_BadWord => k_is)
    (case kC_BadWord => k_is)
    (case ex_BadWord => k_is)
    (case ve_BadWord => k_is)
    (case ty_BadWord => k_is)
    (case hd_BadWord => k_is)
    (case sup_BadWord => ks_is)
    (case mro_BadWord => k_is)
    (case su_BadWord => first | rfl | k_is)
    (case ca_BadWord => k_is)
    (case mo_BadWord => k_is)
    (case l_BadWord => k_is)
    (case c_BadWord => k_is)
    (case lc_BadWord => k_is)
    (case v2_BadWord => rfl)
    (case fl_BadWord => first | rfl | decide +kernel)
    (case cc_BadWord => k_is)
    (case aC_DoubleName => k_is)
    (case xL_DoubleName => k_is)
    (case bm_DoubleName => rfl)
    (case sa_DoubleName => k_is)
    (case ga_DoubleName => k_is)
    (case gg_DoubleName => k_is)
    (case no_name_DoubleName => k_is)
    (case iC_DoubleName => k_is)
    (case tI_DoubleName => k_is)
    (case kC_DoubleName => k_is)
    (case ex_DoubleName => k_is)
    (case ve_DoubleName => k_is)
    (case ty_DoubleName => k_is)
    (case hd_DoubleName => k_is)
    (case sup_DoubleName => ks_is)
    (case mro_DoubleName => k_is)
    (case su_DoubleName => first | rfl | k_is)
    (case ca_DoubleName => k_is)
    (case mo_DoubleName => k_is)
    (case l_DoubleName => k_is)
    (case c_DoubleName => k_is)
    (case lc_DoubleName => k_is)
    (case v2_DoubleName => rfl)
    (case fl_DoubleName => first | rfl | decide +kernel)
    (case cc_DoubleName => k_is)
    (case aC_BadNumber => k_is)
    (case xL_BadNumber => k_is)
    (case bm_BadNumber => rfl)
    (case sa_BadNumber => k_is)
    (case ga_BadNumber => k_is)
    (case gg_BadNumber => k_is)
    (case no_number_BadNumber => k_is)
    (case iC_BadNumber => k_is)
    (case tI_BadNumber => k_is)
    (case kC_BadNumber => k_is)
    (case ex_BadNumber => k_is)
    (case ve_BadNumber => k_is)
    (case ty_BadNumber => k_is)
    (case hd_BadNumber => k_is)
    (case sup_BadNumber => ks_is)
    (case mro_BadNumber => k_is)
    (case su_BadNumber => first | rfl | k_is)
    (case ca_BadNumber => k_is)
    (case mo_BadNumber => k_is)
    (case l_BadNumber => k_is)
    (case c_BadNumber => k_is)
    (case lc_BadNumber => k_is)
    (case v2_BadNumber => rfl)
    (case fl_BadNumber => first | rfl | decide +kernel)
    (case cc_BadNumber => k_is)
    (case aC_EmptyStep => k_is)
    (case xL_EmptyStep => k_is)
    (case bm_EmptyStep => rfl)
    (case sa_EmptyStep => k_is)
    (case ga_EmptyStep => k_is)
    (case gg_EmptyStep => k_is)
    (case no_name_EmptyStep => k_is)
    (case iC_EmptyStep => k_is)
    (case tI_EmptyStep => k_is)
    (case kC_EmptyStep => k_is)
    (case ex_EmptyStep => k_is)
    (case ve_EmptyStep => k_is)
    (case ty_EmptyStep => k_is)
    (case hd_EmptyStep => k_is)
    (case sup_EmptyStep => ks_is)
    (case mro_EmptyStep => k_is)
    (case su_EmptyStep => first | rfl | k_is)
    (case ca_EmptyStep => k_is)
    (case mo_EmptyStep => k_is)
    (case l_EmptyStep => k_is)
    (case c_EmptyStep => k_is)
    (case lc_EmptyStep => k_is)
    (case v2_EmptyStep => rfl)
    (case fl_EmptyStep => first | rfl | decide +kernel)
    (case cc_EmptyStep => k_is)
    (case aC_UnknownName => k_is)
    (case xL_UnknownName => k_is)
    (case bm_UnknownName => rfl)
    (case sa_UnknownName => k_is)
    (case ga_UnknownName => k_is)
    (case gg_UnknownName => k_is)
    (case no_name_UnknownName => k_is)
    (case iC_UnknownName => k_is)
    (case tI_UnknownName => k_is)
    (case kC_UnknownName => k_is)
    (case ex_UnknownName => k_is)
    (case ve_UnknownName => k_is)
    (case ty_UnknownName => k_is)
    (case hd_UnknownName => k_is)
    (case sup_UnknownName => ks_is)
    (case mro_UnknownName => k_is)
    (case su_UnknownName => first | rfl | k_is)
    (case ca_UnknownName => k_is)
    (case mo_UnknownName => k_is)
    (case l_UnknownName => k_is)
    (case c_UnknownName => k_is)
    (case lc_UnknownName => k_is)
    (case v2_UnknownName => rfl)
    (case fl_UnknownName => first | rfl | decide +kernel)
    (case cc_UnknownName => k_is)
    (case aC_Plan => k_is)
    (case pg_Plan => k_is)
    (case hd_Plan => k_is)
    (case po_Plan => k_is)
    (case sa_Plan => k_is)
    (case no_places_Plan => k_is)
    (case no_begin_Plan => k_is)
    (case no_taken_Plan => k_is)
    (case no_given_Plan => k_is)
    (case no_steps_Plan => k_is)
    (case ca_Plan => k_is)
    (case mo_Plan => k_is)
    (case mk_Plan => k_is)
    (case kC_Plan => k_is)
    (case a_Plan___init__ => k_is)
    (case i_Plan___init__ => k_is)
    (case l_Plan___init__ => k_is)
    (case c_Plan___init__ => k_is)
    (case k_Plan___init__ => k_is)
    (case a_Plan_put_step => k_is)
    (case i_Plan_put_step => k_is)
    (case l_Plan_put_step => k_is)
    (case c_Plan_put_step => k_is)
    (case k_Plan_put_step => k_is)
    (case a_Plan_place_rows => k_is)
    (case i_Plan_place_rows => k_is)
    (case l_Plan_place_rows => k_is)
    (case c_Plan_place_rows => k_is)
    (case k_Plan_place_rows => k_is)
    (case a_Plan_step_rows => k_is)
    (case i_Plan_step_rows => k_is)
    (case l_Plan_step_rows => k_is)
    (case c_Plan_step_rows => k_is)
    (case k_Plan_step_rows => k_is)
    (case a_Plan___eq__ => k_is)
    (case i_Plan___eq__ => k_is)
    (case l_Plan___eq__ => k_is)
    (case c_Plan___eq__ => k_is)
    (case k_Plan___eq__ => k_is)
    (case kt_Plan_Plan => kit_is)
#print axioms PySem.Challenge.cw_heldsteps_k61_plan_texts_holds