import PyProof.Rows.All
import Wide.All
import OpenK.AllK
import Wide.FinOn
import PyProof.EqAt
import PyProof.EqKinds
import PyProof.TupleCall
import KE.KExcSuper
import KE.KExcIs
import HandS.ForMost
import HandS.ForExc
import HandS.ExcInit
import HandS.ExcField
import HandS.ExcIs
import HandS.TryMany
import HandS.Walk
import HandS.Wide
import HandS.EndBits
import HandS.Flow
import HandS.Codes
import HandS.IsInst
import HandS.More
import HandS.Conv
import HandS.DictTup
import KE.KDictWalk
import HandS.Style
import HandS.Text
import HandS.Steps
import HandS.CallLocal
import HandS.TupLe
import HandS.TupAny
import HandS.Zip
import HandS.FStr
import HandS.Star
import HandS.DictComp
import PyProof.EqLayable
import HandS.Iter
import HandS.Strs
import PyProof.Rows.StrMul
import HandS.CallSlots
import HandS.Defaults
import HandS.Deep
import KE.KOpsOwn
import KE.KFmtOwn
import PySem.Challenge.RW_heldsteps_k07_whole_ratio_quotients
set_option Elab.async false
set_option linter.all false
set_option maxRecDepth 100000
set_option maxHeartbeats 4000000
/-! An error class of the package: a class over a class over ValueError, whose __init__ says super().__init__(text) and then stores its arguments. -/
namespace PySem
namespace HErr
open PySem.W PySem.Calls PyProof.Rows PySem.HandSPX
abbrev FP := Str × Pos × Pos × Pos × Pos
def stF (q : FP) : Stmt := .Assign [.Attribute (.Name "self" q.2.1) q.1 q.2.2.1] (.Name q.1 q.2.2.2.1) q.2.2.2.2
def stS (msg : Expr) (p1 p2 p3 p4 p5 : Pos) : Stmt := .Expr (.Call (.Attribute (.Call (.Name "super" p1) [] [] p2) "__init__" p3) [msg] [] p4) p5
section
variable {prog : Program} {w : World} {A : Around} {E : Value → Shared → Prop} {s : Shared} {K : Frag} {C : Addr}
/-- what is known of the class for its stores -/
structure ClsK (K : Frag) (C : Addr) (fs : List Str) : Prop where
  cls : ∃ nm q N bs bm sn sub ab col dd k0 k1 k2 k3 k5, K.lookup C = some (excClassObj nm q C N bs bm true sn sub ab col dd k0 k1 k2 k3 k5 "ValueError.__new__") ∧ refsVE bm = true
  sa : findIn K (.ref C) "__setattr__" = some (some (.builtin "object.__setattr__"))
  noN : ∀ f ∈ fs, findIn K (.ref C) f = some none
theorem ClsK.data {fs : List Str} (T : ClsK K C fs) : ∃ cd, clsIn K C = some cd ∧ refsVE cd.mro = true ∧ cd.hasDict = true := by
  obtain ⟨nm, q, N, bs, bm, sn, sub, ab, col, dd, k0, k1, k2, k3, k5, hC, hbm⟩ := T.cls
  exact ⟨{ name := nm, bases := bs, mro := .ref C :: bm, ns := N, qualname := q, hasDict := true, slotNames := sn, subclasses := sub, abstract := ab, collection := col, hasDel := false }, by unfold clsIn; rw [hC] <;> rfl, hbm, rfl⟩
theorem ld {M : Model} {env : Env} {m : Str → Option Value} {x : Str} {pos : Pos} {v : Value} {Q : Value → Shared → Prop} (hn : s.heap.Ns env.locals m) (hv : m x = some v) (h : Q v s)
    (hk : env.scope.kind = .function) (hl : env.kindOf x = some .local) (hd : (x == ("__debug__" : Str)) = false) :
    wpAny M A (eval (.Name x pos) env) Q E s := wpAny_Name (wpAny_loadName_local hk hl hn hv h) hd
theorem swaps_attr (env : Env) (q : FP) : swapsWith (.Name q.1 q.2.2.2.1) (some (.Attribute (.Name "self" q.2.1) q.1 q.2.2.1)) q.2.2.2.2.line env = pure false := rfl
/-- the stores behind the first -/
theorem stores_old {names : List Str} (T : ClsK K C names) {env : Env} (hk : env.scope.kind = .function) (hself : env.kindOf "self" = some .local) {m : Str → Option Value} {x dx t0 : Addr} (hmx : m "self" = some (.ref x)) :
    ∀ (fs : List FP) (us : List Value) (vs : List L2.V) (hv : L2.Vals vs us) (hfn : ∀ q ∈ fs, q.1 ∈ names ∧ env.kindOf q.1 = some .local ∧ (q.1 == ("__debug__" : Str)) = false) (hm : Paired (fun (q : FP) u => m q.1 = some u) fs us) (fV : List (Str × L2.V)) (mA : Str → Option Value) (s : Shared) (Q : Flow → Shared → Prop),
      K.In s.heap → s.heap.Ns env.locals m → env.locals ≠ dx → K.lookup dx = none →
      s.heap.get? x = some { cls := .ref C, dict := some dx, data := .fields #[.ref t0, .none, .none, .none, .bool false, .none] } → s.heap.Ns1 dx mA → (∀ f, L2.RelO (fV.lookup f) (mA f)) → fV.length + fs.length ≤ 900 →
      (∀ h' tk mB, (∀ b o, b ≠ dx → s.heap.get? b = some o → h'.get? b = some o) → h'.Ns1 dx mB → (∀ f, L2.RelO ((((fs.map (·.1)).zip vs).reverse ++ fV).lookup f) (mB f)) → Q .next { s with heap := h', toks := tk }) →
      wpAny (model prog w) A (execs (fs.map stF) env) Q E s
  | [], us, vs, hv, hfn, hm, fV, mA, s, Q, X, hn, hL, hKd, hx, hns, hr, hl, hq => by
    refine wpAny_execs_nil ?_
    have := hq s.heap s.toks mA (fun _ _ _ e => e) hns (by simpa using hr)
    exact this
  | q :: fs, us, vs, hv, hfn, hm, fV, mA, s, Q, X, hn, hL, hKd, hx, hns, hr, hl, hq => by
    cases hm with
    | cons hu hm' =>
      rename_i u us'
      cases hv with
      | cons ru hv' =>
        rename_i v vs'
        obtain ⟨hmem, hloc, hdb⟩ := hfn q (List.mem_cons_self ..)
        obtain ⟨cd, hcd, hmro, hhd⟩ := T.data
        have hw := L2.within_of hr
        obtain ⟨hp, g, d, tk, os⟩ := s
        obtain ⟨oD, _, _, hoD, _, _⟩ := hns.count hw
        show wpAny _ _ (execs (stF q :: fs.map stF) env) _ _ _
        refine wpAny_execs_cons (plainObj_wpAny_Assign_Attribute ?_ (swaps_attr env q))
        refine ld hn hu (ld hn hmx ?_ hk hself (by decide)) hk hloc hdb
        refine set_plain X (ox := { cls := .ref C, dict := some dx, data := .fields #[.ref t0, .none, .none, .none, .bool false, .none] }) (od := some oD) ⟨hx, rfl, rfl, hoD⟩ T.sa ?_
        refine PySem.OEX.osa_old X hx hns hw (by rw [List.length_map]; omega) hcd hmro hhd (T.noN _ hmem) (fun h' tk' k hn' => ?_)
        have hxd : x ≠ dx := fun z => by
          obtain ⟨o, es, ep, e1, e2, _⟩ := hns
          rw [← z, hx] at e1
          cases e1
          cases e2
        refine stores_old T hk hself hmx fs us' vs' hv' (fun q' hq' => hfn q' (List.mem_cons_of_mem _ hq')) hm' ((q.1, v) :: fV) _ ⟨h', g, d, tk', os⟩ Q
          (fun a o e => k a o (fun z => by rw [z, hKd] at e; cases e) (X a o e)) ?_ hL hKd (k _ _ hxd hx) hn' (L2.relO_put ru hr) (by simp only [List.length_cons] at hl ⊢; omega) (fun h2 tk2 mB k2 hn2 r2 => ?_)
        · obtain ⟨o, es, ep, e1, e2⟩ := hn
          exact ⟨o, es, ep, k _ _ hL e1, e2⟩
        · refine hq h2 tk2 mB (fun b o hb e => k2 b o hb (k b o hb e)) hn2 fun f => ?_
          have := r2 f
          simpa using this
/-- all stores: from an exception without a dict -/
theorem stores_new {names : List Str} (T : ClsK K C names) {env : Env} (hk : env.scope.kind = .function) (hself : env.kindOf "self" = some .local) {m : Str → Option Value} {x t0 : Addr} (hmx : m "self" = some (.ref x))
    (q : FP) (fs : List FP) (us : List Value) (vs : List L2.V) (hv : L2.Vals vs us) (hfn : ∀ q' ∈ q :: fs, q'.1 ∈ names ∧ env.kindOf q'.1 = some .local ∧ (q'.1 == ("__debug__" : Str)) = false) (hm : Paired (fun (q : FP) u => m q.1 = some u) (q :: fs) us) (s : Shared) (Q : Flow → Shared → Prop)
    (X : K.In s.heap) (hn : s.heap.Ns env.locals m) (hLx : env.locals ≠ x) (hKx : K.lookup x = none)
    (hx : s.heap.get? x = some { cls := .ref C, data := .fields #[.ref t0, .none, .none, .none, .bool false, .none] }) (hl : fs.length ≤ 800)
    (hq : ∀ h' tk dx mB, (∀ b o, b ≠ x → s.heap.get? b = some o → h'.get? b = some o) → s.heap.objs.size ≤ dx → dx ≠ x → h'.get? x = some { cls := .ref C, dict := some dx, data := .fields #[.ref t0, .none, .none, .none, .bool false, .none] } →
      h'.Ns1 dx mB → (∀ f, L2.RelO (((((q :: fs).map (·.1)).zip vs).reverse).lookup f) (mB f)) → Q .next { s with heap := h', toks := tk }) :
    wpAny (model prog w) A (execs ((q :: fs).map stF) env) Q E s := by
  cases hm with
  | cons hu hm' =>
    rename_i u us'
    cases hv with
    | cons ru hv' =>
      rename_i v vs'
      obtain ⟨hmem, hloc, hdb⟩ := hfn q (List.mem_cons_self ..)
      obtain ⟨cd, hcd, hmro, hhd⟩ := T.data
      obtain ⟨hp, g, d, tk, os⟩ := s
      show wpAny _ _ (execs (stF q :: fs.map stF) env) _ _ _
      refine wpAny_execs_cons (plainObj_wpAny_Assign_Attribute ?_ (swaps_attr env q))
      refine ld hn hu (ld hn hmx ?_ hk hself (by decide)) hk hloc hdb
      refine set_plain X (ox := { cls := .ref C, dict := none, data := .fields #[.ref t0, .none, .none, .none, .bool false, .none] }) (od := none) ⟨hx, rfl, rfl, trivial⟩ T.sa ?_
      refine exc_osa X hx hcd hmro hhd (T.noN _ hmem) (fun h' tk' dx k dn dne hx' hn' => ?_)
      have hbig : ∀ {b : Addr} {o : Obj}, hp.get? b = some o → b ≠ dx := fun {b o} e => Nat.ne_of_lt (Nat.lt_of_lt_of_le (Heap.lt_size e) dn)
      have hKd : K.lookup dx = none := by
        cases e : K.lookup dx with
        | none => rfl
        | some o => exact absurd rfl (hbig (X _ _ e))
      have hLd : env.locals ≠ dx := by
        obtain ⟨o, es, ep, e1, e2⟩ := hn
        exact hbig e1
      refine stores_old T hk hself hmx fs us' vs' hv' (fun q' hq' => hfn q' (List.mem_cons_of_mem _ hq')) hm' [(q.1, v)] _ ⟨h', g, d, tk', os⟩ Q
        (fun a o e => k a o (fun z => by rw [z, hKx] at e; cases e) (X a o e)) ?_ hLd hKd hx' hn' (L2.relO_put (fs := []) ru fun _ => True.intro) (by simp only [List.length_cons, List.length_nil] at hl ⊢; omega) (fun h2 tk2 mB k2 hn2 r2 => ?_)
      · obtain ⟨o, es, ep, e1, e2⟩ := hn
        exact ⟨o, es, ep, k _ _ hLx e1, e2⟩
      · refine hq h2 tk2 dx mB (fun b o hb e => k2 b o (hbig e) (k b o hb e)) dn dne (k2 _ _ (Ne.symm dne) hx') hn2 fun f => ?_
        have := r2 f
        simpa using this
/-- what the written part says of the class at C and of its __init__, at fI: its name is cn, its fields fs -/
structure ErrTxt (P : Program) (K : Frag) (mg : Str → Option Value) (tm : Bool) (cn : Str) (C fI : Addr) (fs : List Str) : Prop extends ClsK K C fs where
  gC : mg cn = some (.ref C)
  ga : findIn K (.ref C) "__getattribute__" = some (some (.builtin "BaseException.__getattribute__"))
  gg : findIn K (.ref C) "__getattr__" = some none
  iC : findIn K (.ref C) "__init__" = some (some (.ref fI))
  tC : typeIn K (.ref fI) = some (.type "function")
  kC : keepIn K (.ref C) = true
  exC : subIn K (.ref C) (.type "BaseException") = some true
  veC : subIn K (.ref C) (.type "ValueError") = some true
  tyC : typeIn K (.ref C) = some (.type "type")
  hdC : hasDictIn K C = true
  sup : ks_superIn K C C "__init__" = some (some (.builtin "ValueError.__init__"))
  mro : mroIn K C (.ref C) = some true
  sub : subIn K (.ref C) (.ref C) = some true
  ca : findIn K (.ref C) "__class__" = some (some (.builtin "object.__class__"))
  cg : specialIn K (.builtin "object.__class__") "__get__" = some (some (.builtin "getset_descriptor.__get__"))
  ct : takesIn K (.builtin "object.__class__") = some true
  mo : mroIn K C (.type "object") = some true
  opq : nsIn K cStatics "thirdparty.any" = some none
  msup : mg "super" = none
  top : (P.main.scope.names.lookup ("super" : Str)).isSome = false
  fn : ∃ (oc : Value) (od : Option Addr) (qual : Str) (par : Arguments) (sc : Scope) (msg : Expr) (p1 p2 p3 p4 p5 : Pos) (fp : List FP) (dV kV doc pm : Value) (an : Option Addr) (cda cc : Addr) (ct : Value) (osl : Array (Option Value)) (ar : Arg)
      (ccl cl : Value) (cdd cld : Option Addr) (ccs csl : Array (Option Value)) (vs : Array Value) (file : Str) (tf : Tok),
    K.lookup fI = some ⟨oc, od, .func (ksFn "__init__" qual par (stS msg p1 p2 p3 p4 p5 :: fp.map stF) sc dV kV doc pm an (.ref cda) ct cc), osl⟩ ∧ codeIn K (.ref cda) qual = true ∧
    (par.posonlyargs ++ par.args).head? = some ar ∧ ar.arg = "self" ∧ K.lookup cda = some ⟨ccl, cdd, .fields vs, ccs⟩ ∧ vs[2]? = some (.str file tf) ∧ ((P.main.file : Str) == file) = true ∧
    K.lookup cc = some ⟨cl, cld, .cell (some (.ref C)), csl⟩ ∧ fp.map (·.1) = fs ∧ (p3.endLine == p4.line) = true ∧
    (sc.names.lookup ("super" : Str) = some .globalImplicit ∧ sc.names.lookup ("__class__" : Str) = some .free ∧ sc.names.lookup ("self" : Str) = some .local ∧ (∀ f ∈ fs, sc.names.lookup f = some .local) ∧ (∀ f ∈ fs, (f == ("__debug__" : Str)) = false) ∧ (∀ y ∈ sc.names, y.2 ≠ .cell)) ∧
    (sc.kind = .function ∧ sc.isGenerator = false ∧ sc.isCoroutine = false) ∧
    (∀ (s : Shared) (x : Value) (us : List Value), us.length = fs.length → BindsTo s (ksFn "__init__" qual par (stS msg p1 p2 p3 p4 p5 :: fp.map stF) sc dV kV doc pm an (.ref cda) ct cc) ⟨x :: us, []⟩ (("self", x) :: fs.zip us)) ∧
    (∀ (x : Value) (us : List Value), us.length = fs.length → ((("self" : Str), x) :: fs.zip us).reverse.lookup ("self" : Str) = some x ∧ Paired (fun f u => ((("self" : Str), x) :: fs.zip us).reverse.lookup f = some u) fs us) ∧
    ((tm = false ∧ ∃ (z : Str) (i : Nat) (p : Pos), msg = .Constant (.str z) i p) ∨ tm = true ∧ ∃ (z f : Str) (i : Nat) (p p' p'' : Pos), msg = .BinOp (.Constant (.str z) i p) .Add (.Name f p') p'' ∧ z.length ≤ 100 ∧ fs.head? = some f)
/-- what __init__ leaves of a fresh exception at x -/
structure InitEnd (h h' : Heap) (x C dx t1 : Addr) (fs : List Str) (vs : List L2.V) : Prop where
  keep : ∀ b o, b ≠ x → h.get? b = some o → h'.get? b = some o
  obj : h'.get? x = some { cls := .ref C, dict := some dx, data := .fields #[.ref t1, .none, .none, .none, .bool false, .none] }
  dbig : h.objs.size ≤ dx
  dne : dx ≠ x
  ns : ∃ mB, h'.Ns1 dx mB ∧ ∀ f, L2.RelO ((fs.zip vs).reverse.lookup f) (mB f)
/-- the built-in __init__, bound, called -/
theorem call_bw {h : Heap} {g : Array GenState} {d : Drawn} {t : Nat} {os : OsState} {u e t0 : Addr} {rest : List Value} {names : List Str} {Q : Value → Shared → Prop} (T : ClsK K C names) (X : K.In h)
    (he : h.get? e = some (excO C t0)) (hu : h.get? u = some (kxs_mw "ValueError.__init__" e)) (hrest : rest.length ≤ sizeLine)
    (hq : ∀ h' t1, (∀ b o, b ≠ e → h.get? b = some o → h'.get? b = some o) → h'.get? e = some (excO C t1) → Q .none ⟨h', g, d, t, os⟩) :
    wpAny (model prog w) A (call (.ref u) rest) Q E ⟨h, g, d, t, os⟩ := by
  obtain ⟨nm, q, N, bs, bm, sn, sub, ab, col, dd, k0, k1, k2, k3, k5, hC, hbm⟩ := T.cls
  refine wpAny_call (codeAny_of_tree ?_)
  show wpAny _ A.in1 (callAny (.ref u) ⟨rest, []⟩) _ _ _
  simp only [callAny]
  refine wpAny_bind (wpAny_load hu ?_)
  simp only [kxs_mw, show (Value.type "method-wrapper" == Value.type "method" || Value.type "method-wrapper" == Value.type "builtin_function_or_method" || Value.type "method-wrapper" == Value.type "method-wrapper") = true by decide, if_true]
  refine W.KFB.if_so (by decide) ?_
  refine wpAny_bind (PySem.W.check_bound_init F.excBase_ValueError.toExcCallFacts (X _ _ hC) he rfl ?_)
  refine wpAny_bind (wpAny_pure (wpAny_pure ?_))
  refine ⟨plainId_quiet F.excBase_ValueError.init.plain _, codeAny_builtin F.excBase_ValueError.initEntry ?_⟩
  exact exc_init_tree (cls := .ref C) (t0 := t0) (dv := none) (c2 := .none) (c3 := .none) (b4 := .bool false) he hrest fun h' k e' _ => hq h' _ k e'
/-- the text that super().__init__ gets -/
def MsgOk (msg : Expr) (env : Env) (m : Str → Option Value) : Prop := ∀ (prog : Program) (w : World) (A : Around) (E : Value → Shared → Prop) (s : Shared) (Q : Value → Shared → Prop), s.heap.Ns env.locals m → (∀ v tk, Q v { s with toks := tk }) → wpAny (model prog w) A (eval msg env) Q E s
/-- its __init__, called -/
theorem err_init {mg : Str → Option Value} {cn : Str} {fI : Addr} {fs : List Str} {tm : Bool} (T : ErrTxt prog K mg tm cn C fI fs) {x t0 : Addr} {us : List Value} {vs : List L2.V} {mb : Str → Option Value} {R : Result → Shared → Prop} (hv : L2.Vals vs us) (hl : us.length = fs.length) (hl8 : fs.length ≤ 8) (hne : fs ≠ [])
    (hmsg : tm = true → ∀ u, us.head? = some u → ∃ (z : Str) (t : Tok), u = .str z t ∧ z.length ≤ 1000)
    (X : K.In s.heap) (hlim : s.heap.NoLimit) (hg : s.heap.Ns mainGlobals mg) (hb : s.heap.Ns builtinsNs mb) (hbs : mb "super" = bootBuiltins "super") (hx : s.heap.get? x = some (excO C t0)) (hnx : K.lookup x = none) (hroom : A.depth < recursionLimit)
    (hq : ∀ h' tk dx t1, InitEnd s.heap h' x C dx t1 fs vs → R (.ok (.ret .none)) { s with heap := h', toks := tk }) :
    codeAny (model prog w) A (.call (.ref fI) ⟨.ref x :: us, []⟩) R s := by
  obtain ⟨oc, od, qual, par, sc, msg, p1, p2, p3, p4, p5, fp, dV, kV, doc, pm, an, cda, cc, ct, osl, ar, ccl, cl, cdd, cld, ccs, csl, avs, file, tf, ho, hcd, har, hself, hcda, hfile, hfe, hcell, hfp, hpos, ⟨nS, nC, nSelf, nF, nD, nCell⟩, ⟨kF, kG, kCo⟩, hbind, hlook, hm⟩ := T.fn
  obtain ⟨lself, lf⟩ := hlook (.ref x) us hl
  obtain ⟨cd, hcd2, hmro, hhd⟩ := T.toClsK.data
  obtain ⟨oD, hD1, hD2⟩ : ∃ oD, s.heap.get? C = some oD ∧ oD.data = .cls cd := by
    unfold clsIn at hcd2
    split at hcd2
    · rename_i c d cd' sl ho'
      cases hcd2
      exact ⟨_, X _ _ ho', rfl⟩
    · cases hcd2
  have hxC : x ≠ C := fun z => by
    rw [z, hD1] at hx
    cases hx
    cases hD2
  refine ks_codeAny_call_defAt (fd := ksFn "__init__" qual par (stS msg p1 p2 p3 p4 p5 :: fp.map stF) sc dV kV doc pm an (.ref cda) ct cc) (body := stS msg p1 p2 p3 p4 p5 :: fp.map stF) (binds := ("self", .ref x) :: fs.zip us) hroom (X _ _ ho) rfl hlim (codeRec_of X hcd) rfl (hbind s (.ref x) us hl) nCell ?_ (fun h₁ hns hk₁ => ?_) kCo kG kF
  · intro y hy
    rcases List.mem_cons.mp hy with rfl | hy
    · exact nSelf
    · exact nF _ (List.of_mem_zip hy).1
  have X₁ : K.In h₁ := X.keeps hk₁
  have hx₁ := hk₁ _ _ hx
  have hLx : s.heap.objs.size ≠ x := Nat.ne_of_gt (Heap.lt_size hx)
  have hMsg : MsgOk msg (ksEnv qual sc s.heap.objs.size fI (.ref cda) cc) (fun y => (((("self" : Str), Value.ref x) :: fs.zip us).reverse.lookup y)) := by
    intro prog w A E s1 Q hn1 hq1
    rcases hm with ⟨_, z, i, p, rfl⟩ | ⟨htm, z, f, i, p, p', p'', rfl, hz, hf⟩
    · exact wpAny_Constant_str (hq1 _ _)
    · cases lf with
      | nil => cases hf
      | cons h1 _ =>
        cases hf
        obtain ⟨z2, t2, rfl, hz2⟩ := hmsg htm _ rfl
        refine wpAny_BinOp (wpAny_Constant_str (ld (env := ksEnv qual sc s.heap.objs.size fI (.ref cda) cc) hn1 h1 ?_ kF (nF _ (List.mem_cons_self ..)) (nD _ (List.mem_cons_self ..))))
        exact add_str (fun t' tk => hq1 _ _) (by rw [sizeLine_eq]; omega)
  obtain ⟨kind, names, isG, isC, more⟩ := sc
  dsimp only at kF kG kCo nS nC nSelf nF nCell
  subst kF kG kCo
  obtain ⟨pl, he⟩ : ∃ pl, eval (.Call (.Attribute (.Call (.Name "super" p1) [] [] p2) "__init__" p3) [msg] [] p4) (ksEnv qual ⟨.function, names, false, false, more⟩ s.heap.objs.size fI (.ref cda) cc) = (do
      let ov ← attributeBase (.Call (.Name "super" p1) [] [] p2) "__init__" (ksEnv qual ⟨.function, names, false, false, more⟩ s.heap.objs.size fI (.ref cda) cc) (eval (.Call (.Name "super" p1) [] [] p2) (ksEnv qual ⟨.function, names, false, false, more⟩ s.heap.objs.size fI (.ref cda) cc))
      standAt p3.atName
      let (f, first) ← holding [ov] (getMethod ov "__init__" pl)
      callWith p4 f first (backTo p4 (starEach [msg] (ksEnv qual ⟨.function, names, false, false, more⟩ s.heap.objs.size fI (.ref cda) cc))) []) := by
    have hmp : ∀ o env, methodCallPos true o env p3 p4 = pure p4 := fun o env => by
      unfold methodCallPos
      rw [hpos] <;> rfl
    have key : ∀ ms : Expr, methodCallForm ([ms].length + ([] : List Keyword).length) (backTo p4 (starEach [ms] (ksEnv qual ⟨.function, names, false, false, more⟩ s.heap.objs.size fI (.ref cda) cc))) (backToKw p4 (keywordEach [] (ksEnv qual ⟨.function, names, false, false, more⟩ s.heap.objs.size fI (.ref cda) cc))) = true →
        eval (.Call (.Attribute (.Call (.Name "super" p1) [] [] p2) "__init__" p3) [ms] [] p4) (ksEnv qual ⟨.function, names, false, false, more⟩ s.heap.objs.size fI (.ref cda) cc) = (do
      let ov ← attributeBase (.Call (.Name "super" p1) [] [] p2) "__init__" (ksEnv qual ⟨.function, names, false, false, more⟩ s.heap.objs.size fI (.ref cda) cc) (eval (.Call (.Name "super" p1) [] [] p2) (ksEnv qual ⟨.function, names, false, false, more⟩ s.heap.objs.size fI (.ref cda) cc))
      standAt p3.atName
      let (f, first) ← holding [ov] (getMethod ov "__init__" (do return (← importBound (.Call (.Name "super" p1) [] [] p2) (ksEnv qual ⟨.function, names, false, false, more⟩ s.heap.objs.size fI (.ref cda) cc)).getD true))
      callWith p4 f first (backTo p4 (starEach [ms] (ksEnv qual ⟨.function, names, false, false, more⟩ s.heap.objs.size fI (.ref cda) cc))) []) := by
      intro ms hf
      show (do
        let ov ← attributeBase (.Call (.Name "super" p1) [] [] p2) "__init__" (ksEnv qual ⟨.function, names, false, false, more⟩ s.heap.objs.size fI (.ref cda) cc) (eval (.Call (.Name "super" p1) [] [] p2) (ksEnv qual ⟨.function, names, false, false, more⟩ s.heap.objs.size fI (.ref cda) cc))
        standAt p3.atName
        methodCall (.Call (.Name "super" p1) [] [] p2) "__init__" p3 p4 (ksEnv qual ⟨.function, names, false, false, more⟩ s.heap.objs.size fI (.ref cda) cc) ov ([ms].length + ([] : List Keyword).length) (backTo p4 (starEach [ms] (ksEnv qual ⟨.function, names, false, false, more⟩ s.heap.objs.size fI (.ref cda) cc))) (backToKw p4 (keywordEach [] (ksEnv qual ⟨.function, names, false, false, more⟩ s.heap.objs.size fI (.ref cda) cc)))) = _
      unfold methodCall
      simp only [hf, hmp, pure_bind]
      rfl
    rcases hm with ⟨_, z, i, p, rfl⟩ | ⟨htm, z, f, i, p, p', p'', rfl, hz, hf⟩
    · exact ⟨_, key _ rfl⟩
    · exact ⟨_, key _ rfl⟩
  have hst : starEach [msg] (ksEnv qual ⟨.function, names, false, false, more⟩ s.heap.objs.size fI (.ref cda) cc) = [(false, eval msg (ksEnv qual ⟨.function, names, false, false, more⟩ s.heap.objs.size fI (.ref cda) cc))] := by
    rcases hm with ⟨_, z, i, p, rfl⟩ | ⟨htm, z, f, i, p, p', p'', rfl, hz, hf⟩
    · rfl
    · rfl
  -- super().__init__(..)
  refine ks_wpAt_execs_cons (ks_wpAt_Expr_any (ks_wpAt_MethodCall (pl := pl) ?_ he))
  refine ks_wpAt_super_base (env := ksEnv qual ⟨.function, names, false, false, more⟩ s.heap.objs.size fI (.ref cda) cc) nS nC (by decide) rfl (hk₁ _ _ (X _ _ ho)) rfl har rfl (X₁ _ _ hcda) rfl hfile hfe T.top ?_
  refine ks_loadName_global rfl nS (loadGlobal_builtin (env := ksEnv qual ⟨.function, names, false, false, more⟩ s.heap.objs.size fI (.ref cda) cc) (hg.keeps hk₁) T.msup (hb.keeps hk₁) (hbs.trans (by first | boot_by_name | rfl | kernel_rfl)) ⟨rfl, ?_⟩)
  refine wpAny_loadName_free rfl nC rfl ⟨_, X₁ _ _ hcell, rfl⟩ ?_
  rw [hself]
  refine wpAny_loadName_local rfl nSelf hns lself ?_
  refine ks_wpAny_isType_cls (hk₁ _ _ hD1) hD2 ⟨rfl, ?_⟩
  refine ks_wpAny_call_super (hk₁ _ _ hD1) hD2 hx₁ rfl (fun c e => by cases e) (looks_mroIn X₁ T.mro) (fun h₂ eso k₂ => ?_)
  have X₂ : K.In h₂ := X₁.keeps k₂
  have hx₂ := k₂ _ _ hx₁
  have hnsU : ∀ {h : Heap}, (∀ b o, h₁.get? b = some o → h.get? b = some o) → h.Ns s.heap.objs.size (fun y => ((("self" : Str), Value.ref x) :: fs.zip us).reverse.lookup y) := fun {h} k => hns.keeps k
  have hsup := T.sup
  unfold ks_superIn at hsup
  rw [hcd2] at hsup
  refine kxs_getMethod kxs_ValueError (K := K) eso (looks_opaque X₂ T.opq) (l₀ := cd.mro) ?_ rfl X₂ hsup ?_ hxC (by decide) ?_
  · exact fun A Q E s k q => wpAny_bind ((looks_clsIn X₂ hcd2) A _ E s k (wpAny_pure q))
  · exact (InstAt.type (od := none) ⟨hx₂, rfl, rfl, trivial⟩).andThen (looks_subIn X₂ T.veC)
  · have k₃ : ∀ b o, h₂.get? b = some o → (h₂.push (kxs_mw "ValueError.__init__" x)).get? b = some o := fun b o e => Heap.get?_push_of_some _ e
    show wpAny _ _ (callWith p4 (.ref h₂.objs.size) [] (backTo p4 (starEach [msg] (ksEnv qual ⟨.function, names, false, false, more⟩ s.heap.objs.size fI (.ref cda) cc))) []) _ _ _
    rw [hst]
    refine kxs_callWith (i := "ValueError.__init__") (x := x) rfl (evalArgs_plain ?_)
    refine spliced_cons ?_
    refine hMsg prog w _ _ _ _ (hnsU fun b o e => k₃ b o (k₂ b o e)) (fun v tk => spliced_nil ⟨?_, ?_⟩)
    · exact Heap.get?_push_at rfl rfl
    · refine call_bw T.toClsK (X₂.keeps k₃) (k₃ _ _ hx₂) (Heap.get?_push_at rfl rfl) (by rw [sizeLine_eq]; exact (by decide : 1 ≤ 16777216)) (fun h₄ t1 k₄ hx₄ => ?_)
      have hsz : ∀ {b : Addr} {o : Obj}, s.heap.get? b = some o → b ≠ x → h₄.get? b = some o := fun {b o} e hb => k₄ b o hb (k₃ b o (k₂ b o (hk₁ b o e)))
      have hL4 : h₄.Ns s.heap.objs.size (fun y => ((("self" : Str), Value.ref x) :: fs.zip us).reverse.lookup y) := by
        obtain ⟨o, es, ep, e1, e2⟩ := hns
        exact ⟨o, es, ep, k₄ _ _ hLx (k₃ _ _ (k₂ _ _ e1)), e2⟩
      cases fp with
      | nil => exact absurd hfp.symm (by simpa using hne)
      | cons q fp =>
        have hP : Paired (fun (q : FP) u => ((("self" : Str), Value.ref x) :: fs.zip us).reverse.lookup q.1 = some u) (q :: fp) us := by
          rw [← hfp] at lf
          have key : ∀ (m : Str → Option Value) (l : List FP) (us : List Value), Paired (fun f u => m f = some u) (l.map (·.1)) us → Paired (fun (q : FP) u => m q.1 = some u) l us := by
            intro m l
            induction l with
            | nil => intro us h; cases h; exact .nil
            | cons a l ih => intro us h; cases h with | cons h1 h2 => exact .cons h1 (ih _ h2)
          have := key (fun y => ((("self" : Str), Value.ref x) :: fs.zip us).reverse.lookup y) (q :: fp) us (by simpa [hfp] using lf)
          exact this
        show wpAt _ _ _ (execs ((q :: fp).map stF) _) _ _ _
        refine wpAt_of_wpAny (stores_new (m := fun y => (((("self" : Str), Value.ref x) :: fs.zip us).reverse.lookup y)) T.toClsK (env := ksEnv qual ⟨.function, names, false, false, more⟩ s.heap.objs.size fI (.ref cda) cc) rfl nSelf lself q fp us vs hv (fun q' hq' => ?_) hP ⟨h₄, s.gens, s.drawn, tk, s.os⟩ _ ((fun a o e => hsz (X a o e) (fun z => by rw [z, hnx] at e; cases e))) hL4 hLx hnx hx₄ ?_ (fun h' tk' dx mB k5 dn dne hx5 hn5 r5 => ?_))
        · have hin : q'.1 ∈ fs := by rw [← hfp]; exact List.mem_map_of_mem hq'
          exact ⟨hin, nF _ hin, nD _ hin⟩
        · have : (q :: fp).length = fs.length := by rw [← hfp, List.length_map]
          simp only [List.length_cons] at this
          omega
        · refine hq h' tk' dx t1 ⟨fun b o hb e => k5 b o hb (hsz e hb), hx5, ?_, dne, mB, hn5, ?_⟩
          · refine Nat.le_trans ?_ dn
            have z1 : s.heap.objs.size < h₄.objs.size := by
              obtain ⟨o, es, ep, e1, e2⟩ := hL4
              exact Heap.lt_size e1
            exact Nat.le_of_lt z1
          · intro f
            have := r5 f
            rw [hfp] at this
            exact this
/-- a made error -/
structure OwnMade (h h' : Heap) (e C d : Addr) (fs : List Str) (vs : List L2.V) : Prop where
  keep : ∀ b o, h.get? b = some o → h'.get? b = some o
  new : h.objs.size ≤ e
  obj : ∃ oe as, h'.get? e = some oe ∧ oe.cls = .ref C ∧ oe.dict = some d ∧ oe.data = .fields as ∧ as[1]? = some .none
  dbig : h.objs.size ≤ d
  dne : d ≠ e
  ns : ∃ mB, h'.Ns1 d mB ∧ ∀ f, L2.RelO ((fs.zip vs).reverse.lookup f) (mB f)
theorem err_made {mg : Str → Option Value} {cn : Str} {fI : Addr} {fs : List Str} {tm : Bool} (T : ErrTxt prog K mg tm cn C fI fs) {us : List Value} {vs : List L2.V} {mb : Str → Option Value} {R : Result → Shared → Prop} (hv : L2.Vals vs us) (hl : us.length = fs.length) (hl8 : fs.length ≤ 8) (hne : fs ≠ [])
    (hmsg : tm = true → ∀ u, us.head? = some u → ∃ (z : Str) (t : Tok), u = .str z t ∧ z.length ≤ 1000)
    (X : K.In s.heap) (hlim : s.heap.NoLimit) (hg : s.heap.Ns mainGlobals mg) (hb : s.heap.Ns builtinsNs mb) (hbs : mb "super" = bootBuiltins "super") (hroom : A.depth + 1 < recursionLimit)
    (hq : ∀ h' tk e d, OwnMade s.heap h' e C d fs vs → R (.ok (.ret (.ref e))) { s with heap := h', toks := tk }) :
    codeAny (model prog w) A (.call (.ref C) ⟨us, []⟩) R s := by
  obtain ⟨nm, q, N, bs, bm, sn, sub, ab, col, dd, k0, k1, k2, k3, k5, hC, hbm⟩ := T.cls
  obtain ⟨hp, g, dr, tk, os⟩ := s
  have k : ∀ b o, hp.get? b = some o → ((hp.push (kdv_tup us)).push (excO C hp.objs.size)).get? b = some o := fun b o e => Heap.get?_push_of_some _ (Heap.get?_push_of_some _ e)
  have hget : ((hp.push (kdv_tup us)).push (excO C hp.objs.size)).get? (hp.objs.size + 1) = some (excO C hp.objs.size) := by heap_get
  have hnx : K.lookup (hp.objs.size + 1) = none := by
    cases e : K.lookup (hp.objs.size + 1) with
    | none => rfl
    | some o =>
      have z : hp.get? (hp.objs.size + 1) = some o := X _ _ e
      exact absurd (Nat.lt_of_succ_lt (Heap.lt_size z)) (Nat.lt_irrefl _)
  refine call_own F.excBase_ValueError (fun X => refsVE_contains X bm hbm) (X _ _ hC) (looks_findIn X T.iC) (fun self => bind_fn X self T.tC) (by rw [sizeLine_eq]; omega) ?_
  refine err_init (s := ⟨(hp.push (kdv_tup us)).push (excO C hp.objs.size), g, dr, tk, os⟩) T hv hl hl8 hne hmsg (X.keeps k) (hlim.keeps k) (hg.keeps k) (hb.keeps k) hbs hget hnx ?_ fun h' tk' dx t1 ⟨k', hx, dn, dne, hns⟩ => ?_
  · show A.depth + 1 < recursionLimit
    exact hroom
  · have old : ∀ b o, hp.get? b = some o → h'.get? b = some o := fun b o e => k' b o (Nat.ne_of_lt (Nat.lt_succ_of_lt (Heap.lt_size e))) (k b o e)
    have z : hp.objs.size + 1 + 1 ≤ dx := by
      first
        | (simpa only [Heap.size_push] using dn)
        | exact dn
        | (have q := dn; rw [Heap.size_push, Heap.size_push] at q; exact q)
    exact ⟨rfl, hq h' tk' (hp.objs.size + 1) dx ⟨old, Nat.le_succ _, ⟨_, _, hx, rfl, rfl, rfl, rfl⟩, Nat.le_trans (Nat.le_trans (Nat.le_succ _) (Nat.le_succ _)) z, dne, hns⟩⟩
end
end HErr
end PySem
namespace L2
open PySem PySem.Spec PyProof.Rows PySem.HErr
section
variable {X : Cx} {C fI : Addr} {cn : Str} {fs : List Str} {tm : Bool}
/-- C(e, ..), an error of the package -/
def tMkE (tm : Bool) (C : Addr) (fs : List Str) (ta : TA) : St → Hp → XK → Prop := fun σ H Q => ta σ H fun vs H1 => vs.length = fs.length ∧ (tm = true → ∃ (z : Str) (r : List V), vs = .str z :: r ∧ z.length ≤ 1000) ∧
  ∀ d, H1 d = none → Q (.ref C) (some d) (upd H1 d (.xd (fs.zip vs).reverse))
theorem pmk_err {a : Expr} {as : List Expr} {ta : TA} {p pos : Pos} {k : Nat} (T : ErrTxt X.prog X.K X.mg tm cn C fI fs) (hr : Room k X.A) (ha : PA X (a :: as) ta) (hl8 : fs.length ≤ 8) (hne : fs ≠ []) (hg : Gl X cn := by rfl) (hdb : (cn == ("__debug__" : Str)) = false := by decide)
    (he : starEach (a :: as) X.env = (false, eval a X.env) :: starEach as X.env := by rfl) (hpl : (backTo pos (starEach as X.env)).any (·.1) = false := by rfl) :
    PMk X (.Call (.Name cn p) (a :: as) [] pos) (tMkE tm C fs ta) := by
  intro pins s σ H Q I h
  refine wpAny_Call_Name_kw (ld_glob I hg T.gC ?_ hdb)
  refine PySem.W.callWith_K (h₀ := X.base) I.ok.mod.kin T.kC (thn (ha.run pos pins s σ H _ I h) fun us s1 hh => ?_) he hpl
  obtain ⟨vs, H1, I1, r1, hl, hz, q1⟩ := hh
  refine ⟨I1.kIn, ?_⟩
  show wpAny _ _ (call (.ref C) us) _ _ _
  have hlim := I1.nolimit
  obtain ⟨mb, hb1, hb2⟩ := I1.mod.blt
  have hgl := I1.mod.glob.keeps I1.bk
  have hbl := hb1.keeps I1.bk
  obtain ⟨hp, g, dr, tk, os⟩ := s1
  refine wpAny_call (err_made (mb := mb) T r1 (r1.length.symm.trans hl) hl8 hne ?_ I1.kIn hlim hgl hbl (hb2 "super" (by decide)) (by have := hr.dp; omega) fun h' tk' e d M => ?_)
  · intro ht u hu
    obtain ⟨z, r, rfl, hz5⟩ := hz ht
    cases r1 with
    | cons r0 _ =>
      cases hu
      obtain ⟨t, rfl⟩ := r0
      exact ⟨z, t, rfl, hz5⟩
  show MkP X pins σ Q (.ref e) ⟨h', g, dr, tk', os⟩
  obtain ⟨oe, fv, hoe, hc, hd, hdat, h1⟩ := M.obj
  obtain ⟨mB, hns, hrel⟩ := M.ns
  obtain ⟨G', g1, g2⟩ := restrict h' fun b => decide (b ≠ e)
  have gk : ∀ b, b ≠ e → G'.get? b = h'.get? b := fun b hb => g1 b (decide_eq_true hb)
  have ge : G'.get? e = none := g2 e (by simp)
  have old : ∀ b o, hp.get? b = some o → G'.get? b = some o := fun b o q => (gk b (Nat.ne_of_lt (Nat.lt_of_lt_of_le (Heap.lt_size q) M.new))).trans (M.keep b o q)
  have ob : ObjOk X.prog X.w (upd H1 d (.xd (fs.zip vs).reverse)) G' d (.xd (fs.zip vs).reverse) :=
    ⟨mB, hns.at (fun o q => (gk d M.dne).trans q), hrel⟩
  have J : Inv X pins σ (upd H1 d (.xd (fs.zip vs).reverse)) ⟨G', g, dr, tk', os⟩ := I1.laid (t' := tk') old M.dbig ob
  refine ⟨e, oe, fv, ⟨G', g, dr, tk', os⟩, _, .ref C, some d, rfl, J, fun b o q => ?_, ge, hoe, ⟨hc, hd⟩, hdat, h1, ?_, rfl, I1.bare, raises_own T.exC T.tyC, q1 d (I1.hok.fresh M.dbig)⟩
  · by_cases hb : b = e
    · have q' : G'.get? b = some o := q
      rw [hb, ge] at q'; cases q'
    · exact (gk b hb).symm.trans q
  · rw [upd_ne (Ne.symm M.dne)]
    exact I1.hok.fresh M.new
/-- raise C(e, ..) -/
def tRaiseE (tm : Bool) (C : Addr) (fs : List Str) (W : WX) (ta : TA) : TS := fun _ σ H => tMkE tm C fs ta σ H fun cls d H' => W cls d σ H'
theorem ps_raiseE {a : Expr} {as : List Expr} {ta : TA} {W : WX} {p pos pos2 : Pos} {k : Nat} (hc : X.calm = true) (T : ErrTxt X.prog X.K X.mg tm cn C fI fs) (hr : Room k X.A) (tk : Takes X W) (ha : PA X (a :: as) ta) (hl8 : fs.length ≤ 8 := by decide) (hne : fs ≠ [] := by decide) (hg : Gl X cn := by rfl) (hdb : (cn == ("__debug__" : Str)) = false := by decide)
    (he : starEach (a :: as) X.env = (false, eval a X.env) :: starEach as X.env := by rfl) (hpl : (backTo pos (starEach as X.env)).any (·.1) = false := by rfl) :
    PS X (.Raise (some (.Call (.Name cn p) (a :: as) [] pos)) none pos2) (tRaiseE tm C fs W ta) := ps_raise hc tk (pmk_err T hr ha hl8 hne hg hdb he hpl)
/-- an own class in an except clause -/
theorem _root_.PySem.HErr.ErrTxt.xf {P : Program} {K : PySem.W.Frag} {mg : Str → Option Value} (T : ErrTxt P K mg tm cn C fI fs) : XfC K C := ⟨T.ga, T.gg, T.exC, T.hdC⟩
theorem _root_.PySem.HErr.ErrTxt.te {P : Program} {K : PySem.W.Frag} {mg : Str → Option Value} (T : ErrTxt P K mg tm cn C fI fs) : PySem.W.exmOne K (.ref C) (.ref C) = some true := PySem.W.exm_ref T.exC T.hdC T.tyC T.sub
/-- what isinstance asks of the class of an error -/
structure IsC (K : PySem.W.Frag) (D : Addr) : Prop where
  hg : PySem.W.findIn K (.ref D) "__getattribute__" = some (some (.builtin "BaseException.__getattribute__"))
  hk : PySem.W.findIn K (.ref D) "__getattr__" = some none
  hs : PySem.W.subIn K (.ref D) (.type "BaseException") = some true
  hd : PySem.W.hasDictIn K D = true
  ha : PySem.W.findIn K (.ref D) "__class__" = some (some (.builtin "object.__class__"))
  hn : PySem.W.specialIn K (.builtin "object.__class__") "__get__" = some (some (.builtin "getset_descriptor.__get__"))
  ht : PySem.W.takesIn K (.builtin "object.__class__") = some true
  hm : PySem.W.mroIn K D (.type "object") = some true
theorem _root_.PySem.HErr.ErrTxt.isC {P : Program} {K : PySem.W.Frag} {mg : Str → Option Value} (T : ErrTxt P K mg tm cn C fI fs) : IsC K C := ⟨T.ga, T.gg, T.exC, T.hdC, T.ca, T.cg, T.ct, T.mo⟩
/-- isinstance(e, c), e the error (with fields) that the suite holds -/
def rIsD (K : PySem.W.Frag) (cls : Value) (d : Option Addr) (a : Addr) : List V → Hp → VK → Prop := fun xs H Q => ∃ (D dd : Addr) (fs : List (Str × V)) (c : V) (cv : Value) (b : Bool), cls = .ref D ∧ IsC K D ∧ d = some dd ∧ H dd = some (.xd fs) ∧ xs = [.ref a, c] ∧ (∀ u, RelV c u → u = cv) ∧ PySem.W.kitOne K (.ref D) cv = some b ∧ Q (.bl b) H
theorem call_isD {a : Addr} {oe : Obj} {cls : Value} {d : Option Addr} {pn : List (Addr × Obj)} (hz : Zc cls d oe) (hf : ∃ vs, oe.data = .fields vs) : CallR (X.suite a ((a, oe) :: pn)) (.builtin "isinstance") (rIsD X.K cls d a) := by
  intro pins s σ H xs us Q I r h
  obtain ⟨D, dd, fs, c, cv, b, rfl, C, rfl, hdd, rfl, hcv, e, q⟩ := h
  cases r with
  | cons rx rr =>
    cases rr with
    | cons rt rr =>
      cases rr
      cases rx
      have ec := hcv _ rt
      subst ec
      obtain ⟨hget, _⟩ := I.pin (a, oe) (List.mem_append.mpr (.inl List.mem_cons_self))
      obtain ⟨vs, hv⟩ := hf
      have hx : ObjOk X.prog X.w H s.heap dd (.xd fs) := I.hok dd _ hdd
      obtain ⟨mA, hns, hr⟩ := hx
      obtain ⟨od, ho, hl⟩ := lookIn_ns hns
      have J : PySem.W.InstAt s.heap a oe D (some od) := ⟨hget, hz.1, by unfold PySem.W.notCls; rw [hv] <;> rfl, by rw [hz.2]; exact ho⟩
      have hcl : (PySem.W.clsIn X.K D).isSome = true := by
        obtain ⟨cd, hc, _⟩ := PySem.W.any_some C.hd
        rw [hc]
        rfl
      exact PySem.W.kia_one (PySem.W.kitx_exc hcl C.hg C.hk C.hs C.ha C.hn C.ht C.hm) I.kIn J e (fun z => nomatch z) fun tk => ⟨.bl b, H, I.kept (t' := tk) fun _ _ z => z, rfl, q⟩
end
end L2

set_option Elab.async false
set_option linter.all false
set_option maxRecDepth 100000
set_option maxHeartbeats 4000000
/-! try with several except clauses, each with or without a name. -/
namespace L2
open PySem PySem.Spec PyProof.Rows PySem.HErr
abbrev Clause := Value × Option Nat × (Addr → Value → Option Addr → TS)
def endsAt (o : Option Nat) (D : Ends) : Ends := match o with
  | none => D
  | some i => { nx := fun σ H => D.nx (σ.set i none) H, rt := D.rt, bk := fun σ H => D.bk (σ.set i none) H, ct := fun σ H => D.ct (σ.set i none) H }
def slotAtH (o : Option Nat) (a : Addr) (σ : St) : St := match o with
  | none => σ
  | some i => σ.set i (some (.ref a))
/-- what the clauses want of an exception of the body, from the first on -/
def wClauses (K : PySem.W.Frag) (Wout : WX) (D : Ends) : List Clause → WX
  | [] => Wout
  | (c, o, ts) :: r => fun cls d σ H => ∃ b, PySem.W.exmOne K cls c = some b ∧ (b = true → ∀ a, H a = none → ts a cls d (endsAt o D) (slotAtH o a σ) H) ∧ (b = false → wClauses K Wout D r cls d σ H)
inductive Clauses (X : Cx) : List ExceptHandler → List Clause → Prop
  | nil : Clauses X [] []
  | bare {x : Str} {c : Value} {ts : Addr → Value → Option Addr → TS} {b₀ : Stmt} {suite : List Stmt} {np pos' : Pos} {hds : List ExceptHandler} {l : List Clause} (hc : Names X x c)
      (hsu : ∀ (a : Addr) (oe : Obj) (cls : Value) (d : Option Addr) (pn : List (Addr × Obj)), Zc cls d oe → (∃ vs, oe.data = .fields vs) → PSs (X.suite a ((a, oe) :: pn)) (b₀ :: suite) (ts a cls d)) (r : Clauses X hds l) :
      Clauses X (.ExceptHandler (some (.Name x np)) none (b₀ :: suite) pos' :: hds) ((c, none, ts) :: l)
  | named {x n : Str} {i : Nat} {c : Value} {ts : Addr → Value → Option Addr → TS} {b₀ : Stmt} {suite : List Stmt} {np pos' : Pos} {hds : List ExceptHandler} {l : List Clause} (hi : X.N[i]? = some n) (hln : X.env.kindOf n = some .local) (hc : Names X x c)
      (hsu : ∀ (a : Addr) (oe : Obj) (cls : Value) (d : Option Addr) (pn : List (Addr × Obj)), Zc cls d oe → (∃ vs, oe.data = .fields vs) → PSs (X.suite a ((a, oe) :: pn)) (b₀ :: suite) (ts a cls d)) (r : Clauses X hds l) :
      Clauses X (.ExceptHandler (some (.Name x np)) (some n) (b₀ :: suite) pos' :: hds) ((c, some i, ts) :: l)
section
variable {X : Cx} {body : List Stmt} {h₀ : ExceptHandler} {hds : List ExceptHandler} {l : List Clause} {pos : Pos} {tb : WX → TS} {Wout : WX}
theorem ps_try_all (hs : X.stack = X.env :: X.outer) (hf : X.env.frame = some X.env.locals) (hN : X.N.Nodup) (tk : Takes X Wout)
    (hb : ∀ (W : WX) (pn : List (Addr × Obj)) (xe : Value → Shared → Prop), Takes (X.tr pn xe) W → PassesOwn (model X.prog X.w) X.A X.env xe → PSs (X.tr pn xe) body (tb W))
    (hh : Clauses X (h₀ :: hds) l) {K : PySem.W.Frag} (hK : X.K = K := by rfl) : PS X (.Try body (h₀ :: hds) [] [] pos) (fun D σ H => tb (wClauses K Wout D l) D σ H) := by
  subst hK
  refine ⟨fun pins s σ H D I h => ?_⟩
  have ok := I.ok
  have hfr : X.A.frames = some (X.env :: X.outer) := by rw [ok.frames, hs]
  refine wpAny_Try_except ?_
  refine wpAny_mono ((hb (wClauses X.K Wout D l) (X.pn ++ pins) (fun e s₁ => wpAny (model X.prog X.w) X.A (noteFrame e X.env) (fun _ s₂ => wpAny (model X.prog X.w) X.A (setFlight e none) (fun _ s₃ =>
    wpAny (model X.prog X.w) X.A (handleBy e X.env (h₀ :: hds)) (SP X pins D) X.xe s₃) X.xe s₂) X.xe s₁) (fun u s' xx => ?_) PassesOwn.looking).run [] s σ H D (I.toTry _) h) (fun f s1 hsp => ?_) (fun e s1 he => he)
  · obtain ⟨a, Bg, sI, pins', σ', H', cls, d, rfl, J', nb, up, sky, na, os, ag, ww⟩ := xx
    have J : Inv X pins σ' H' sI := J'.ofTry ok
    have sky' : Sky Bg (X.env :: X.outer) a (Zc cls d) X.env.locals s'.heap := by rw [← hs]; exact sky
    show wpAny (model X.prog X.w) X.A (noteFrame (.ref a) X.env) _ _ _
    refine Sky.land Zc.steady hfr hf sky' fun h3 fl3 up3 => ?_
    have J3 : Inv X pins σ' H' { s' with heap := h3 } := J.landed nb fl3.1 (up.trans up3) os ag
    obtain ⟨oe3, vs3, he3, hz3, hd3⟩ := fl3.there
    have nfr : a ∉ frs (X.env :: X.outer) := fun hm => by
      obtain ⟨_, o', e', hnf⟩ := fl3.2.2.1.mem hm
      rw [he3] at e'
      cases e'
      exact hnf _ hd3
    have nL : a ≠ X.env.locals := fun z => nfr (List.mem_filterMap.mpr ⟨X.env, List.mem_cons_self, by rw [hf, z]⟩)
    have nF : a ∉ X.fs := fun hm => by
      obtain ⟨e, he, q⟩ := List.mem_filterMap.mp hm
      exact nfr (List.mem_filterMap.mpr ⟨e, List.mem_cons_of_mem _ he, q⟩)
    have S3 := J3.suite he3 hd3 na nL nF
    have test : ∀ {x : Str} {c : Value} {np : Pos} {Q : Value → Shared → Prop} {E : Value → Shared → Prop}, Names X x c → Q c { s' with heap := h3 } → wpAny (model X.prog X.w) (X.A.mark (some (.ref a))) (eval (.Name x np) X.env) Q E { s' with heap := h3 } := fun {x c np Q E} hc q => by
      obtain ⟨hg, hdbg, hm | ⟨hm, hv, hnn⟩⟩ := hc
      · exact ld_glob (X := X.suite a ((a, oe3) :: (X.pn ++ pins))) S3 hg hm q hdbg
      · exact ld_blt (X := X.suite a ((a, oe3) :: (X.pn ++ pins))) S3 hg hm hv q hnn hdbg
    have LT : PySem.W.Looks (model X.prog X.w) h3 (typeOf (.ref a)) cls := fun A Q E s k q => wpAny_typeOf_ref (k _ _ he3) (by rw [hz3.1]; exact q)
    have go : ∀ {hds' : List ExceptHandler} {l' : List Clause}, Clauses X hds' l' → wClauses X.K Wout D l' cls d σ' H' →
        wpAny (model X.prog X.w) X.A (handleBy (.ref a) X.env hds') (SP X pins D) X.xe { s' with heap := h3 } := by
      intro hds' l' hk
      induction hk with
      | nil =>
        intro ww
        refine wpAny_handleBy_nil ?_
        obtain ⟨k1, k2, k3, oe, vs, T, oT, ts', he, hz, hd, h1, hr⟩ := id fl3
        unfold PySem.passOn
        refine wpAny_bind (wpAny_field he hd h1 ?_)
        rw [if_neg (show ¬ ((Value.ref T == Value.none) = true) from by simp)]
        have fin : wpAny (model X.prog X.w) X.A (setFlight (.ref a) X.env.frame) (fun _ s4 => wpAny (model X.prog X.w) X.A (throw (.ref a) : Sem Flow) (SP X pins D) X.xe s4) X.xe { s' with heap := h3 } := by
          rw [hf]
          refine HandSPX.setFlight_upZ fl3 fun h4 hh4 up4 => wpAny_throw (tk _ _ ?_)
          exact ⟨a, Bg, sI, pins, σ', H', cls, d, rfl, J, nb, (up.trans up3).trans up4, .inr (.inr (by rw [hs]; exact hh4)), na, os, ag, ww⟩
        first
          | exact wpAny_bind (wpAny_pure (wpAny_bind fin))
          | exact wpAny_bind fin
      | @bare x c ts b₀ suite np pos' hds2 l2 hc hsu r ih =>
        intro ww
        obtain ⟨b, hb1, hyes, hno⟩ := ww
        refine wpAny_handleBy_cons (codeAny_handlers_test ?_) (by intro q; cases q)
        have LM := PySem.W.exm_one (M := model X.prog X.w) (J3.kIn) LT hb1
        refine test hc (LM.here ?_)
        cases b with
        | true =>
          refine codeAny_handlers_suite (HandSPX.lands_againZ fl3 fun h4 fl4 up4 => ?_)
          have J4 : Inv X pins σ' H' { s' with heap := h4 } := J.landed nb fl4.1 ((up.trans up3).trans up4) os ag
          obtain ⟨oe4, vs4, he4, hz4, hd4⟩ := fl4.there
          have S4 := J4.suite he4 hd4 na nL nF
          refine wpAny_mono ((hsu a oe4 cls d (X.pn ++ pins) hz4 ⟨_, hd4⟩).run [] _ _ H' _ S4 (hyes rfl a na)) (fun f s6 hsp => ?_) (fun _ _ z => False.elim z)
          cases f with
          | ret u =>
            obtain ⟨v6, σ6, H6, S6, r6, q6⟩ := hsp
            exact ⟨_, _, _, S6.unsuite ok, r6, q6⟩
          | _ =>
            obtain ⟨σ6, H6, S6, q6⟩ := hsp
            exact ⟨_, _, S6.unsuite ok, q6⟩
        | false =>
          show wpAny _ X.A (handleBy (.ref a) X.env hds2) _ _ _
          exact ih (hno rfl)
      | @named x n i c ts b₀ suite np pos' hds2 l2 hi hln hc hsu r ih =>
        intro ww
        obtain ⟨b, hb1, hyes, hno⟩ := ww
        refine wpAny_handleBy_cons (codeAny_handlers_test ?_) (by intro q; cases q)
        have LM := PySem.W.exm_one (M := model X.prog X.w) (J3.kIn) LT hb1
        refine test hc (LM.here ?_)
        cases b with
        | true =>
          refine codeAny_handlers_suite_as (HandSPX.lands_againZ fl3 fun h4 fl4 up4 => ?_)
          have J4 : Inv X pins σ' H' { s' with heap := h4 } := J.landed nb fl4.1 ((up.trans up3).trans up4) os ag
          obtain ⟨oe4, vs4, he4, hz4, hd4⟩ := fl4.there
          have S4 := J4.suite he4 hd4 na nL nF
          refine store_ok (X := X.suite a ((a, oe4) :: (X.pn ++ pins))) (v := .ref a) S4 hN hi (.inl hln) rfl (fun s5 S5 => ?_) (.inr hln)
          refine wpAny_mono ((hsu a oe4 cls d (X.pn ++ pins) hz4 ⟨_, hd4⟩).run [] s5 _ H' _ S5 (hyes rfl a na)) (fun f s6 hsp => ?_) (fun _ _ z => False.elim z)
          have end_ : ∀ {σ6 : St} {H6 : Hp} {Q : Shared → Prop}, Inv (X.suite a ((a, oe4) :: (X.pn ++ pins))) [] σ6 H6 s6 → (∀ s7, Inv X pins (σ6.set i none) H6 s7 → Q s7) →
              wpAny (model X.prog X.w) X.A (do bindName X.env n .none; unbindBehindTheSuite X.env n pos') (fun _ s7 => Q s7) X.xe s6 := fun {σ6 H6 Q} S6 hq => gone_ok (S6.unsuite ok) hN hi hln hq
          cases f with
          | ret u =>
            obtain ⟨v6, σ6, H6, S6, r6, q6⟩ := hsp
            exact end_ S6 fun s7 J7 => ⟨_, _, _, J7, r6, q6⟩
          | next =>
            obtain ⟨σ6, H6, S6, q6⟩ := hsp
            exact end_ S6 fun s7 J7 => ⟨_, _, J7, q6⟩
          | brk =>
            obtain ⟨σ6, H6, S6, q6⟩ := hsp
            exact end_ S6 fun s7 J7 => ⟨_, _, J7, q6⟩
          | cont =>
            obtain ⟨σ6, H6, S6, q6⟩ := hsp
            exact end_ S6 fun s7 J7 => ⟨_, _, J7, q6⟩
        | false =>
          show wpAny _ X.A (handleBy (.ref a) X.env hds2) _ _ _
          exact ih (hno rfl)
    exact go hh ww
  · cases f with
    | next =>
      obtain ⟨σ', H', J', q⟩ := hsp
      exact wpAny_execs_nil ⟨σ', H', J'.ofTry ok, q⟩
    | brk =>
      obtain ⟨σ', H', J', q⟩ := hsp
      exact ⟨σ', H', J'.ofTry ok, q⟩
    | cont =>
      obtain ⟨σ', H', J', q⟩ := hsp
      exact ⟨σ', H', J'.ofTry ok, q⟩
    | ret u =>
      obtain ⟨v, σ', H', J', r, q⟩ := hsp
      exact ⟨v, σ', H', J'.ofTry ok, r, q⟩
end
end L2

set_option Elab.async false
set_option linter.all false
set_option maxRecDepth 100000
set_option maxHeartbeats 4000000
/-! Defs by their names; the built-ins that the texts use; a module's constants. -/
namespace L2
open PySem PySem.Spec PyProof.Rows PySem.HErr
/-- none of these built-ins is shadowed -/
structure Bl (mg : Str → Option Value) : Prop where
  len : mg "len" = none
  range : mg "range" = none
  abs : mg "abs" = none
  sum : mg "sum" = none
  sorted : mg "sorted" = none
  isinstance : mg "isinstance" = none
  zip : mg "zip" = none
  enumerate : mg "enumerate" = none
  reversed : mg "reversed" = none
  int' : mg "int" = none
  str' : mg "str" = none
  list' : mg "list" = none
  tuple' : mg "tuple" = none
  bool' : mg "bool" = none
  all' : mg "all" = none
  any' : mg "any" = none
  ValueError : mg "ValueError" = none
/-- the module's name x is the value v -/
def Glo (mg : Str → Option Value) (x : Str) (v : V) : Prop := ∃ u, mg x = some u ∧ RelV v u
/-- where a def's text stands -/
def LkF (K : PySem.W.Frag) (f : Addr) (fd : FuncData) : Prop := ∃ (oc : Value) (od : Option Addr) (osl : Array (Option Value)), K.lookup f = some ⟨oc, od, .func fd, osl⟩
/-- a def, with whatever defaults -/
structure FunA (K : PySem.W.Frag) (x qual : Str) (st : Stmt) (f : Addr) (fd : FuncData) : Prop where
  ex : ∃ (oc : Value) (od : Option Addr) (dV kV doc pm : Value) (an : Option Addr) (cdv ct : Value) (osl : Array (Option Value)),
    fd = PySem.W.fnOf x qual (defArgs st) (defBody st) (defScope st) dV kV doc pm an cdv ct ∧ K.lookup f = some ⟨oc, od, .func fd, osl⟩ ∧ PySem.W.codeIn K cdv qual = true
  kp : PySem.W.keepIn K (.ref f) = true
section
variable {P : Program} {w : World} {K : PySem.W.Frag} {mg : Str → Option Value} {base : Heap}
theorem FunA.lk {x qual : Str} {st : Stmt} {f : Addr} {fd : FuncData} (F : FunA K x qual st f fd) : LkF K f fd := by
  obtain ⟨oc, od, dV, kV, doc, pm, an, cdv, ct, osl, _, lk, _⟩ := F.ex
  exact ⟨oc, od, osl, lk⟩
theorem PySem_Fun_a {x qual : Str} {st : Stmt} {f : Addr} {fd : FuncData} (F : Fun K x qual st f fd) : FunA K x qual st f fd := by
  obtain ⟨oc, od, kV, doc, pm, an, cdv, ct, osl, e, lk, hcd⟩ := F.ex
  exact ⟨⟨oc, od, .none, kV, doc, pm, an, cdv, ct, osl, e, lk, hcd⟩, F.kp⟩
theorem FunA.ok {x qual : Str} {st : Stmt} {f : Addr} {fd : FuncData} {N ps : List Str} {k : Nat} {sp : Sp} (F : FunA K x qual st f fd) (S : FnScope N ps (defScope st)) (len : ∀ vs H Q E, sp vs H Q E → vs.length = ps.length)
    (hbody : ∀ (cdv : Value) (A : Around) (outer : List Env) (s : Shared) (H : Hp) (vs : List V) (Q : VK) (E : XK), Room k (A.deeper (envOfC qual (defScope st) s.heap.objs.size f cdv)) → sp vs H Q E →
      ∃ t, PSs (cxOf CX0 P w K mg base N qual (defScope st) f cdv A outer s H E).nox (defBody st) t ∧ t { nx := fun _ H' => Q .non H', rt := Q } (start N vs) H) : FnOk P w K mg base CX0 (k + 1) f fd ps sp := by
  obtain ⟨oc, od, dV, kV, doc, pm, an, cdv, ct, osl, rfl, lk, hcd⟩ := F.ex
  refine fn_of lk hcd S len fun A outer s H vs Q E hr hsp => ?_
  obtain ⟨t, h, q⟩ := hbody cdv A outer s H vs Q E hr hsp
  exact ⟨t, h.nox, q⟩
theorem FunA.okX {x qual : Str} {st : Stmt} {f : Addr} {fd : FuncData} {N ps : List Str} {k : Nat} {sp : Sp} (F : FunA K x qual st f fd) (S : FnScope N ps (defScope st)) (len : ∀ vs H Q E, sp vs H Q E → vs.length = ps.length)
    (hbody : ∀ (cdv : Value) (A : Around) (outer : List Env) (s : Shared) (H : Hp) (vs : List V) (Q : VK) (E : XK), Room k (A.deeper (envOfC qual (defScope st) s.heap.objs.size f cdv)) → sp vs H Q E →
      ∃ t, PSs (cxOf (L2.CX P w) P w K mg base N qual (defScope st) f cdv A outer s H E) (defBody st) t ∧ t { nx := fun _ H' => Q .non H', rt := Q } (start N vs) H) : FnOk P w K mg base (L2.CX P w) (k + 1) f fd ps sp := by
  obtain ⟨oc, od, dV, kV, doc, pm, an, cdv, ct, osl, rfl, lk, hcd⟩ := F.ex
  exact fn_of lk hcd S len fun A outer s H vs Q E hr hsp => hbody cdv A outer s H vs Q E hr hsp
end
/-- a def of the text stands where its name says -/
structure Src (K : PySem.W.Frag) (mg : Str → Option Value) (x : Str) (st : Stmt) (ps : List Str) : Prop where
  ex : ∃ f fd, FunA K x x st f fd ∧ mg x = some (.ref f) ∧ Binds K fd ps []
/-- the def x keeps the promise sp -/
structure Def (P : Program) (w : World) (K : PySem.W.Frag) (mg : Str → Option Value) (base : Heap) (CX : CXT) (k : Nat) (x : Str) (ps : List Str) (sp : Sp) : Prop where
  ex : ∃ f fd, LkF K f fd ∧ mg x = some (.ref f) ∧ PySem.W.keepIn K (.ref f) = true ∧ Binds K fd ps [] ∧ FnOk P w K mg base CX k f fd ps sp
section
variable {P : Program} {w : World} {K : PySem.W.Frag} {mg : Str → Option Value} {base : Heap} {CX : CXT} {x : Str} {st : Stmt} {N ps : List Str} {k : Nat} {sp : Sp}
theorem Def.mono {j : Nat} (D : Def P w K mg base CX j x ps sp) (h : j ≤ k) : Def P w K mg base CX k x ps sp := by
  obtain ⟨f, fd, hlk, h1, h2, h3, h4⟩ := D.ex
  exact ⟨f, fd, hlk, h1, h2, h3, h4.mono h⟩
theorem Def.imp {sp' : Sp} (D : Def P w K mg base CX k x ps sp) (h : ∀ vs H Q E, sp' vs H Q E → sp vs H Q E) : Def P w K mg base CX k x ps sp' := by
  obtain ⟨f, fd, hlk, h1, h2, h3, h4⟩ := D.ex
  exact ⟨f, fd, hlk, h1, h2, h3, h4.imp h⟩
theorem Src.ok (F : Src K mg x st ps) (S : FnScope N ps (defScope st)) (len : ∀ vs H Q E, sp vs H Q E → vs.length = ps.length)
    (hbody : ∀ (f : Addr) (cdv : Value) (A : Around) (outer : List Env) (s : Shared) (H : Hp) (vs : List V) (Q : VK) (E : XK), Room k (A.deeper (envOfC x (defScope st) s.heap.objs.size f cdv)) → sp vs H Q E →
      ∃ t, PSs (cxOf CX0 P w K mg base N x (defScope st) f cdv A outer s H E).nox (defBody st) t ∧ t { nx := fun _ H' => Q .non H', rt := Q } (start N vs) H) : Def P w K mg base CX0 (k + 1) x ps sp := by
  obtain ⟨f, fd, h1, h2, h3⟩ := F.ex
  exact ⟨f, fd, h1.lk, h2, h1.kp, h3, h1.ok S len (hbody f)⟩
theorem Src.okX (F : Src K mg x st ps) (S : FnScope N ps (defScope st)) (len : ∀ vs H Q E, sp vs H Q E → vs.length = ps.length)
    (hbody : ∀ (f : Addr) (cdv : Value) (A : Around) (outer : List Env) (s : Shared) (H : Hp) (vs : List V) (Q : VK) (E : XK), Room k (A.deeper (envOfC x (defScope st) s.heap.objs.size f cdv)) → sp vs H Q E →
      ∃ t, PSs (cxOf (L2.CX P w) P w K mg base N x (defScope st) f cdv A outer s H E) (defBody st) t ∧ t { nx := fun _ H' => Q .non H', rt := Q } (start N vs) H) : Def P w K mg base (L2.CX P w) (k + 1) x ps sp := by
  obtain ⟨f, fd, h1, h2, h3⟩ := F.ex
  exact ⟨f, fd, h1.lk, h2, h1.kp, h3, h1.okX S len (hbody f)⟩
end
section
variable {X : Cx} {CX : CXT} {k : Nat} {ps : List Str} {sp : Sp} {x : Str} {p pos : Pos} {e : Expr} {es : List Expr} {t : TA}
theorem pe_def {E : XK} (D : Def X.prog X.w X.K X.mg X.base CX k x ps sp) (hr : Room k X.A) (hx : Passes CX X E) (ha : PA X (e :: es) t) (hg : Gl X x := by rfl)
    (hdb : (x == ("__debug__" : Str)) = false := by decide) (he : starEach (e :: es) X.env = (false, eval e X.env) :: starEach es X.env := by rfl) (hpl : (backTo pos (starEach es X.env)).any (·.1) = false := by rfl) :
    PE X (.Call (.Name x p) (e :: es) [] pos) (tCall sp [] E t) := by
  obtain ⟨f, fd, hlk, h1, h2, h3, h4⟩ := D.ex
  exact pe_call h4 hr hg h1 h2 h3 .nil hx ha hdb he hpl
theorem pe_def0 {E : XK} (D : Def X.prog X.w X.K X.mg X.base CX k x ps sp) (hr : Room k X.A) (hx : Passes CX X E) (hg : Gl X x := by rfl)
    (hdb : (x == ("__debug__" : Str)) = false := by decide) : PE X (.Call (.Name x p) [] [] pos) (tCall sp [] E tNil) := by
  obtain ⟨f, fd, hlk, h1, h2, h3, h4⟩ := D.ex
  exact pe_call0 h4 hr hg h1 h2 h3 .nil hx hdb
theorem pe_defS {E : St → XK} (D : Def X.prog X.w X.K X.mg X.base CX k x ps sp) (hr : Room k X.A) (hx : ∀ σ, PassesAt CX X σ (E σ)) (ha : PA X (e :: es) t) (hg : Gl X x := by rfl)
    (hdb : (x == ("__debug__" : Str)) = false := by decide) (he : starEach (e :: es) X.env = (false, eval e X.env) :: starEach es X.env := by rfl) (hpl : (backTo pos (starEach es X.env)).any (·.1) = false := by rfl) :
    PE X (.Call (.Name x p) (e :: es) [] pos) (tCallS sp E t) := by
  obtain ⟨f, fd, hlk, h1, h2, h3, h4⟩ := D.ex
  exact pe_callS h4 hr hg h1 h2 h3 hx ha hdb he hpl
theorem pe_glo {v : V} (h : Glo X.mg x v) (hg : Gl X x := by rfl) (hd : (x == ("__debug__" : Str)) = false := by decide) : PE X (.Name x p) (tC v) := by
  obtain ⟨u, h1, h2⟩ := h
  exact pe_glob hg h1 h2 hd
end
/-! the rules that speak of the written part, with its letter told -/
section
variable {X : Cx} {K : PySem.W.Frag}
def rLenQ (K : PySem.W.Frag) : List V → Hp → VK → Prop := fun xs H Q => ∃ p ys, xs = [.ref p] ∧ (SqL K H p ys ∨ SqT K H p ys) ∧ Q (.int ys.length) H
def rListQ (K : PySem.W.Frag) : List V → Hp → VK → Prop := fun xs H Q => ∃ p ys, xs = [.ref p] ∧ (SqL K H p ys ∨ SqT K H p ys) ∧ ∀ l, H l = none → Q (.ref l) (upd H l (.lst ys))
def rTupQ (K : PySem.W.Frag) : List V → Hp → VK → Prop := fun xs H Q => ∃ p ys, xs = [.ref p] ∧ ((SqL K H p ys ∧ ∀ l, H l = none → Q (.ref l) (upd H l (.tup ys))) ∨ (SqT K H p ys ∧ Q (.ref p) H))
theorem kix_list (h : X.K = K := by rfl) : IxR X (rIxL K) := h ▸ ix_list
theorem kix_tup (h : X.K = K := by rfl) : IxR X (rIxT K) := h ▸ ix_tup
theorem kix_seq (h : X.K = K := by rfl) : IxR X (rIx K) := h ▸ ix_seq
theorem ksl_list (h : X.K = K := by rfl) : SlR X (rSlL K) := h ▸ sl_list
theorem ksl_tup (h : X.K = K := by rfl) : SlR X (rSlT K) := h ▸ sl_tup
theorem kop_in (h : X.K = K := by rfl) : OpR X (compareOp .In) (rIn K false) := h ▸ op_in_seq
theorem kop_notIn (h : X.K = K := by rfl) : OpR X (compareOp .NotIn) (rIn K true) := h ▸ op_notIn_seq
theorem kop_eqD (hu : X.A.units + 64 < cLine) (h : X.K = K := by rfl) : OpR X (compareOp .Eq) (rEqD K) := h ▸ op_eqD hu
theorem kop_neD (hu : X.A.units + 64 < cLine) (h : X.K = K := by rfl) : OpR X (compareOp .NotEq) (rNeD K) := h ▸ op_neD hu
theorem kop_catT (h : X.K = K := by rfl) : OpR X (binaryOp .Add) (rCatT K) := h ▸ op_catT
theorem kcall_len (h : X.K = K := by rfl) : CallR X (.builtin "len") (rLenQ K) := h ▸ call_len_seq
theorem kcall_list (h : X.K = K := by rfl) : CallR X (.type "list") (rListQ K) := h ▸ call_list_of
theorem kcall_tuple (h : X.K = K := by rfl) : CallR X (.type "tuple") (rTupQ K) := h ▸ call_tuple_of
theorem kcr_sum (hc : X.calm = true) (h : X.K = K := by rfl) : CallR X (.builtin "sum") (rSum K) := h ▸ cr_sum hc
theorem kcr_any (hc : X.calm = true) (h : X.K = K := by rfl) : CallR X (.builtin "any") (rAny K) := h ▸ cr_any hc
theorem kcr_all (hc : X.calm = true) (h : X.K = K := by rfl) : CallR X (.builtin "all") (rAll K) := h ▸ cr_all hc
theorem kcall_isi (h : X.K = K := by rfl) : CallR X (.builtin "isinstance") (rIsi K) := h ▸ call_isi
theorem kpi_list {tg l : Expr} {tl : TE} (hl : PE X l tl) (h : X.K = K := by rfl) : PI X tg l (iList K tl) := h ▸ pi_list hl
theorem kpi_tup {tg l : Expr} {tl : TE} (hl : PE X l tl) (h : X.K = K := by rfl) : PI X tg l (iTup K tl) := h ▸ pi_tup hl
theorem kpe_fld {e : Expr} {f : Str} {pos : Pos} {ta : TE} (he : PE X e ta) (hb : attributeBase e f X.env (eval e X.env) = eval e X.env := by rfl) (h : X.K = K := by rfl) : PE X (.Attribute e f pos) (tFld K ta f) := h ▸ pe_fld he hb
end
/-- a comprehension without an if; with one -/
theorem yes_if {σ : St} {H : Hp} {A B : Hp → Prop} (h : A H) : tYes σ H (fun b H3 => if b = true then A H3 else B H3) := by
  show (if true = true then A H else B H)
  rw [if_pos rfl]
  exact h
/-! ### heaps -/
theorem same_upd {H : Hp} {p : Addr} {o : HO} (h : H p = none) : Same H (upd H p o) := fun b x e => by
  rw [upd_ne (ne_of_none e h)]
  exact e
theorem upd_twice {H : Hp} {b : Addr} {o o' : HO} : upd (upd H b o) b o' = upd H b o' := by
  funext a
  by_cases ha : a = b
  · rw [ha, upd_same, upd_same]
  · rw [upd_ne ha, upd_ne ha, upd_ne ha]
theorem upd_self' {H : Hp} {b : Addr} {o : HO} (h : H b = some o) : upd H b o = H := by
  funext a
  by_cases ha : a = b
  · rw [ha, upd_same, h]
  · rw [upd_ne ha]
/-- all that was tracked is as it was, but for what stands at b -/
def SameB (b : Addr) (H H' : Hp) : Prop := ∀ a o, a ≠ b → H a = some o → H' a = some o
theorem SameB.refl (b : Addr) (H : Hp) : SameB b H H := fun _ _ _ h => h
theorem SameB.trans {b : Addr} {H H1 H2 : Hp} (x : SameB b H H1) (y : SameB b H1 H2) : SameB b H H2 := fun a o n h => y a o n (x a o n h)
theorem Same.b {b : Addr} {H H' : Hp} (h : Same H H') : SameB b H H' := fun a o _ e => h a o e
theorem SameB.upd {b : Addr} {H H' : Hp} {o : HO} (h : SameB b H H') : SameB b H (upd H' b o) := fun a u n e => by
  rw [upd_ne n]
  exact h a u n e
theorem SameB.new {b p : Addr} {H H' : Hp} {o : HO} (h : SameB b H H') (n : H' p = none) : SameB b H (L2.upd H' p o) := fun a u hn e => by
  have := h a u hn e
  rw [upd_ne (ne_of_none this n)]
  exact this
/-- an object that H does not know may change -/
theorem SameB.mut {b p : Addr} {H H' : Hp} {o : HO} (h : SameB b H H') (n : H p = none) : SameB b H (L2.upd H' p o) := fun a u hn e => by
  rw [upd_ne (ne_of_none e n)]
  exact h a u hn e
theorem SameB.free {b l : Addr} {H H' : Hp} (e : SameB b H H') (hb : l ≠ b) (h : H' l = none) : H l = none := by
  cases q : H l with
  | none => rfl
  | some o =>
    rw [e l o hb q] at h
    cases h
theorem SameB.seq {K : PySem.W.Frag} {b : Addr} {H H' : Hp} {a : Addr} {xs : List V} (e : SameB b H H') (n : a ≠ b) (h : SqL K H a xs) : SqL K H' a xs := by
  rcases h with (h | ⟨o, h⟩) | h
  · exact .inl (.inl (e _ _ n h))
  · exact .inl (.inr ⟨o, e _ _ n h⟩)
  · exact .inr h
/-- an error of the class at C with these fields is what E wants, whatever was made meanwhile -/
def Rais (E : XK) (H : Hp) (C : Addr) (fs : List (Str × V)) : Prop := ∀ H' d, Same H H' → H d = none → H' d = some (.xd fs) → E (.ref C) (some d) H'
theorem Rais.go {E : XK} {H H' : Hp} {C d : Addr} {fs : List (Str × V)} (h : Rais E H C fs) (sm : Same H H') (n : H' d = none) : E (.ref C) (some d) (upd H' d (.xd fs)) :=
  h _ d (sm.trans (same_upd n)) (sm.free n) upd_same
/-- the law's box of draws stands at b, its script at l -/
structure Box (H : Hp) (b l : Addr) : Prop where
  ex : ∃ (ns : List Int) (i c r : Int), H b = some (.lst [.int i, .int c, .int r, .ref l]) ∧ H l = some (.lst (ns.map V.int)) ∧ 0 ≤ i ∧ l ≠ b
theorem Box.keep {H H' : Hp} {b l : Addr} (h : Box H b l) (e : Same H H') : Box H' b l := by
  obtain ⟨ns, i, c, r, h1, h2, h3, h4⟩ := h.ex
  exact ⟨ns, i, c, r, e _ _ h1, e _ _ h2, h3, h4⟩
theorem Box.neb {H : Hp} {b l p : Addr} (h : Box H b l) (n : H p = none) : p ≠ b := fun e => by
  obtain ⟨ns, i, c, r, h1, h2, h3, h4⟩ := h.ex
  rw [e, h1] at n
  cases n
theorem Box.nel {H : Hp} {b l p : Addr} (h : Box H b l) (n : H p = none) : p ≠ l := fun e => by
  obtain ⟨ns, i, c, r, h1, h2, h3, h4⟩ := h.ex
  rw [e, h2] at n
  cases n
theorem Box.mut {H : Hp} {b l p : Addr} {o : HO} (h : Box H b l) (nb : p ≠ b) (nl : p ≠ l) : Box (upd H p o) b l := by
  obtain ⟨ns, i, c, r, h1, h2, h3, h4⟩ := h.ex
  exact ⟨ns, i, c, r, by rw [upd_ne (Ne.symm nb)]; exact h1, by rw [upd_ne (Ne.symm nl)]; exact h2, h3, h4⟩
/-- from H to H' only draws were taken and new objects made -/
structure Bx (b l : Addr) (H H' : Hp) : Prop where
  sm : SameB b H H'
  b0 : Box H b l
  b1 : Box H' b l
theorem Box.bx {H : Hp} {b l : Addr} (h : Box H b l) : Bx b l H H := ⟨SameB.refl b H, h, h⟩
theorem Bx.trans {b l : Addr} {H H1 H2 : Hp} (x : Bx b l H H1) (y : Bx b l H1 H2) : Bx b l H H2 := ⟨x.sm.trans y.sm, x.b0, y.b1⟩
theorem Bx.same {b l : Addr} {H H1 H2 : Hp} (x : Bx b l H H1) (y : Same H1 H2) : Bx b l H H2 := ⟨x.sm.trans y.b, x.b0, x.b1.keep y⟩
theorem Bx.new {b l p : Addr} {H H' : Hp} {o : HO} (x : Bx b l H H') (n : H' p = none) : Bx b l H (upd H' p o) := x.same (same_upd n)
theorem Bx.mut {b l p : Addr} {H H' : Hp} {o : HO} (x : Bx b l H H') (n : H p = none) : Bx b l H (upd H' p o) := ⟨x.sm.mut n, x.b0, x.b1.mut (x.b0.neb n) (x.b0.nel n)⟩
theorem Bx.free {b l p : Addr} {H H' : Hp} (x : Bx b l H H') (n : H' p = none) : H p = none := x.sm.free (x.b1.neb n) n
theorem Bx.at {b l a : Addr} {H H' : Hp} {o : HO} (x : Bx b l H H') (h : H a = some o) (n : a ≠ b) : H' a = some o := x.sm a o n h
theorem Bx.seq {K : PySem.W.Frag} {b l : Addr} {H H' : Hp} {a : Addr} {xs : List V} (x : Bx b l H H') (n : a ≠ b) (h : SqL K H a xs) : SqL K H' a xs := x.sm.seq n h
/-- _law_next(box, many) -/
def spNext : Sp := fun vs H Q _ => ∃ (b l : Addr) (many : Int), vs = [.ref b, .int many] ∧ 0 < many ∧ many ≤ 10 ^ 40 ∧ Box H b l ∧ ∀ (n : Int) (H' : Hp), 0 ≤ n → n < many → Bx b l H H' → Q (.int n) H'
/-- _law_box(script) -/
def spBox (K : PySem.W.Frag) : Sp := fun vs H Q _ => ∃ (a : Addr) (ns : List Int), vs = [.ref a] ∧ SqL K H a (ns.map V.int) ∧ ns.length ≤ 63 ∧ ∀ (b l : Addr) (H' : Hp), H b = none → Same H H' → Box H' b l → Q (.ref b) H'
/-! ### plain data: no bools, no dicts -/
/-- a text of ASCII signs -/
def Asc (z : Str) : Prop := ∀ c ∈ z.cps.toList, c < 128
theorem Asc.ok {z : Str} (h : Asc z) : PyData.strOk z = true := by
  unfold PyData.strOk
  rw [← Array.all_toList, List.all_eq_true]
  intro c hc
  have := h c hc
  exact decide_eq_true (by omega)
theorem Asc.app {x y : Str} (hx : Asc x) (hy : Asc y) : Asc (x ++ y) := by
  intro c hc
  rw [Str.cps_append, Array.toList_append] at hc
  rcases List.mem_append.mp hc with h | h
  · exact hx c h
  · exact hy c h
theorem Asc.one {c : Nat} (h : c < 128) : Asc ⟨#[c]⟩ := by
  intro d hd
  have : d = c := by simpa using hd
  omega
theorem Asc.cut {z : Str} (h : Asc z) (lo hi : Option Int) : Asc (cutS z lo hi) := by
  intro c hc
  unfold cutS at hc
  exact h c (List.mem_of_mem_drop (List.mem_of_mem_take (by simpa using hc)))
mutual
def nb : PyData → Bool
  | .none => true
  | .int _ => true
  | .str x => PyData.strOk x
  | .list xs => nbAll xs
  | .tuple xs => nbAll xs
  | .bool _ => false
  | .dict _ => false
def nbAll : List PyData → Bool
  | [] => true
  | x :: xs => nb x && nbAll xs
end
mutual
theorem lay_nb : ∀ d : PyData, nb d = true → PyData.canLay0 d = true
  | .none, _ => by simp only [PyData.canLay0]
  | .int _, _ => by simp only [PyData.canLay0]
  | .str x, h => by simp only [nb] at h; simp only [PyData.canLay0, h]
  | .list xs, h => by simp only [nb] at h; simp only [PyData.canLay0]; exact lay_nbAll xs h
  | .tuple xs, h => by simp only [nb] at h; simp only [PyData.canLay0]; exact lay_nbAll xs h
  | .bool _, h => by simp only [nb] at h; cases h
  | .dict _, h => by simp only [nb] at h; cases h
theorem lay_nbAll : ∀ ds : List PyData, nbAll ds = true → PyData.canLayAll0 ds = true
  | [], _ => by simp only [PyData.canLayAll0]
  | x :: xs, h => by
    simp only [nbAll, Bool.and_eq_true] at h
    simp only [PyData.canLayAll0, lay_nb x h.1, lay_nbAll xs h.2, Bool.and_self]
end
mutual
theorem eqv_nb : ∀ d e : PyData, nb d = true → nb e = true → (PyData.eqv d e = true ↔ d = e)
  | .none, e, _, he => by cases e <;> simp [PyData.eqv]
  | .int i, e, _, he => by cases e <;> simp [PyData.eqv, nb] at he ⊢
  | .str x, e, _, he => by cases e <;> simp [PyData.eqv]
  | .list xs, e, hd, he => by
    cases e with
    | list ys =>
      simp only [nb] at hd he
      simp only [PyData.eqv, eqv_nbAll xs ys hd he, PyData.list.injEq]
    | _ => simp [PyData.eqv]
  | .tuple xs, e, hd, he => by
    cases e with
    | tuple ys =>
      simp only [nb] at hd he
      simp only [PyData.eqv, eqv_nbAll xs ys hd he, PyData.tuple.injEq]
    | _ => simp [PyData.eqv]
  | .bool _, _, h, _ => by simp only [nb] at h; cases h
  | .dict _, _, h, _ => by simp only [nb] at h; cases h
theorem eqv_nbAll : ∀ ds es : List PyData, nbAll ds = true → nbAll es = true → (PyData.eqvAll ds es = true ↔ ds = es)
  | [], [], _, _ => by simp [PyData.eqvAll]
  | [], _ :: _, _, _ => by simp [PyData.eqvAll]
  | _ :: _, [], _, _ => by simp [PyData.eqvAll]
  | x :: xs, y :: ys, hd, he => by
    simp only [nbAll, Bool.and_eq_true] at hd he
    simp only [PyData.eqvAll, Bool.and_eq_true, eqv_nb x y hd.1 he.1, eqv_nbAll xs ys hd.2 he.2, List.cons.injEq]
end
theorem eqv_dec {d e : PyData} (hd : nb d = true) (he : nb e = true) : (PyData.eqv d e = true) = (d = e) := propext (eqv_nb d e hd he)
theorem eqv_self {d : PyData} (hd : nb d = true) : PyData.eqv d d = true := (eqv_nb d d hd hd).mpr rfl
theorem eqv_ne {d e : PyData} (hd : nb d = true) (he : nb e = true) (h : d ≠ e) : PyData.eqv d e = false := by
  cases q : PyData.eqv d e with
  | false => rfl
  | true => exact absurd ((eqv_nb d e hd he).mp q) h
theorem nbAll_of : ∀ {ds : List PyData}, (∀ d ∈ ds, nb d = true) → nbAll ds = true
  | [], _ => rfl
  | d :: ds, h => by
    show (nb d && nbAll ds) = true
    rw [h d (List.mem_cons_self ..), nbAll_of fun x hx => h x (List.mem_cons_of_mem _ hx)]
    rfl
theorem depthAll_le {n : Nat} : ∀ {ds : List PyData}, (∀ d ∈ ds, d.depth ≤ n) → PyData.depthAll ds ≤ n
  | [], _ => by simp [PyData.depthAll]
  | d :: ds, h => by
    simp only [PyData.depthAll]
    exact Nat.max_le.mpr ⟨h d (List.mem_cons_self ..), depthAll_le fun x hx => h x (List.mem_cons_of_mem _ hx)⟩
theorem shaped_of {d : PyData} (h : nb d = true) (hd : d.depth ≤ 64) : SeqAt.shaped d = true := by
  unfold SeqAt.shaped
  rw [lay_nb d h, decide_eq_true hd]
  rfl
/-- a list of texts as data -/
abbrev dStrs (l : List Str) : PyData := .list (l.map .str)
theorem dpall_strs {K : PySem.W.Frag} {H : Hp} : ∀ l : List Str, DpAll K H (l.map V.str) (l.map PyData.str)
  | [] => .nil
  | _ :: l => .cons (.str _) (dpall_strs l)
theorem nb_strs {l : List Str} (h : ∀ z ∈ l, Asc z) : nbAll (l.map PyData.str) = true := nbAll_of fun d hd => by
  obtain ⟨z, hz, rfl⟩ := List.mem_map.mp hd
  show PyData.strOk z = true
  exact (h z hz).ok
theorem depth_strs (l : List Str) : PyData.depthAll (l.map PyData.str) ≤ 0 := depthAll_le fun d hd => by
  obtain ⟨z, hz, rfl⟩ := List.mem_map.mp hd
  simp [PyData.depth]
/-! ### lists of texts -/
theorem inV_strs (n : Str) (ws : List Str) : inV (.str n) (ws.map V.str) = decide (n ∈ ws) := by
  unfold inV
  rw [Bool.eq_iff_iff, List.any_eq_true, decide_eq_true_iff]
  constructor
  · rintro ⟨y, hy, e⟩
    obtain ⟨z, hz, rfl⟩ := List.mem_map.mp hy
    have e : z = n := by simpa [eqV] using e
    exact e ▸ hz
  · intro h
    exact ⟨.str n, List.mem_map_of_mem h, by simp [eqV]⟩
theorem flat_strsB (ws : List Str) : (ws.map V.str).all flatV = true := by
  rw [List.all_eq_true]
  intro y hy
  obtain ⟨z, hz, rfl⟩ := List.mem_map.mp hy
  rfl
theorem flat_ints (ws : List Int) : (ws.map V.int).all flatV = true := by
  rw [List.all_eq_true]
  intro y hy
  obtain ⟨z, hz, rfl⟩ := List.mem_map.mp hy
  rfl
/-- a list or a tuple -/
def Sq (K : PySem.W.Frag) (H : Hp) (a : Addr) (xs : List V) : Prop := SqL K H a xs ∨ SqT K H a xs
theorem Same.seqT {K : PySem.W.Frag} {H H' : Hp} {a : Addr} {xs : List V} (e : Same H H') (h : SqT K H a xs) : SqT K H' a xs := by
  rcases h with (h | ⟨o, h⟩) | h
  · exact .inl (.inl (e _ _ h))
  · exact .inl (.inr ⟨o, e _ _ h⟩)
  · exact .inr h
theorem Same.sq {K : PySem.W.Frag} {H H' : Hp} {a : Addr} {xs : List V} (e : Same H H') (h : Sq K H a xs) : Sq K H' a xs := h.elim (fun h => .inl (e.seq h)) (fun h => .inr (e.seqT h))
theorem map_get {α : Type} {f : α → V} {l : List α} {i : Nat} {x : V} (h : (l.map f)[i]? = some x) : ∃ z, l[i]? = some z ∧ x = f z := by
  rw [List.getElem?_map] at h
  cases e : l[i]? with
  | none => rw [e] at h; cases h
  | some z => rw [e] at h; exact ⟨z, rfl, (Option.some.inj h).symm⟩
theorem take_more {α : Type} {l : List α} {i : Nat} {x : α} (h : l[i]? = some x) : l.take (i + 1) = l.take i ++ [x] := by
  rw [List.take_add_one, h]
  rfl
theorem get_mem {α : Type} {l : List α} {i : Nat} {x : α} (h : l[i]? = some x) : x ∈ l := List.mem_of_getElem? h
theorem cutV_take (xs : List V) (n : Nat) : cutV xs none (some (n : Int)) = xs.take n := by
  unfold cutV
  rw [HT.sIx_none, HT.sIx_nat]
  show List.take (min n xs.length - 0) (List.drop 0 xs) = _
  rw [List.drop_zero, Nat.sub_zero, Nat.min_comm]
  by_cases h : n ≤ xs.length
  · rw [Nat.min_eq_right h]
  · rw [Nat.min_eq_left (by omega), List.take_length, List.take_of_length_le (by omega)]
theorem cutV_drop (xs : List V) (n : Nat) : cutV xs (some (n : Int)) none = xs.drop n := by
  unfold cutV
  rw [HT.sIx_none, HT.sIx_nat]
  by_cases h : n ≤ xs.length
  · rw [Nat.min_eq_left h]
    exact List.take_of_length_le (by rw [List.length_drop]; exact Nat.le_refl _)
  · rw [Nat.min_eq_right (by omega), List.drop_length, List.drop_of_length_le (by omega), List.take_nil]
/-! ### data stay as they are -/
section
variable {K : PySem.W.Frag} {H H' : Hp}
mutual
theorem Dp.keep (e : Same H H') : ∀ (d : PyData) (v : V), Dp K H v d → Dp K H' v d
  | .none, _, h => by cases h; exact .non
  | .bool _, _, h => by cases h; exact .bl _
  | .int _, _, h => by cases h; exact .int _
  | .str _, _, h => by cases h; exact .str _
  | .list ds, _, h => by
    cases h with
    | lst hs ha => exact .lst (e.seq hs) (DpAll.keep e ds _ ha)
  | .tuple ds, _, h => by
    cases h with
    | tup hs ha => exact .tup (e.seqT hs) (DpAll.keep e ds _ ha)
  | .dict _, _, h => by cases h
theorem DpAll.keep (e : Same H H') : ∀ (ds : List PyData) (vs : List V), DpAll K H vs ds → DpAll K H' vs ds
  | [], _, h => by cases h; exact .nil
  | d :: ds, _, h => by
    cases h with
    | cons h1 h2 => exact .cons (Dp.keep e d _ h1) (DpAll.keep e ds _ h2)
end
end
/-! ### words -/
/-! what a word is, by its code points -/
def LETTERS : Str := "abcdefghijklmnopqrstuvwxyz"
def DIGITS : Str := "0123456789"
def okc (c : Nat) : Bool := decide (c ∈ LETTERS.cps.toList) || decide (c ∈ DIGITS.cps.toList)
def wd (l : List Nat) : Bool := decide (1 ≤ l.length ∧ l.length ≤ 12) && (decide (l.headD 0 ∈ LETTERS.cps.toList) && l.all okc)
theorem len_cps (z : Str) : z.length = z.cps.toList.length := rfl
theorem all_take {α : Type} {p : α → Bool} {l : List α} {i : Nat} {c : α} (h : l[i]? = some c) : (l.take (i + 1)).map p = (l.take i).map p ++ [p c] := by
  rw [List.take_add_one, h, List.map_append]
  rfl
theorem all_id {α : Type} (p : α → Bool) (l : List α) : (l.map p).all id = l.all p := by
  rw [List.all_map]
  rfl
theorem get_lt {l : List Nat} {n : Int} (h0 : 0 ≤ n) (h1 : n < l.length) (h2 : l.all (fun c => decide (c < 128)) = true) : ∃ c, atI l n = some c ∧ c < 128 := by
  obtain ⟨j, rfl⟩ : ∃ j : Nat, n = j := ⟨n.toNat, by omega⟩
  have hj : j < l.length := by omega
  refine ⟨l[j], atI_nat (List.getElem?_eq_getElem hj), ?_⟩
  rw [List.all_eq_true] at h2
  exact of_decide_eq_true (h2 _ (List.getElem_mem hj))
theorem wd_cons {c : Nat} {r : List Nat} (hc : c ∈ LETTERS.cps.toList) (hr : ∀ d ∈ r, okc d = true) (hl : r.length ≤ 11) : wd (c :: r) = true := by
  unfold wd
  rw [decide_eq_true (show 1 ≤ (c :: r).length ∧ (c :: r).length ≤ 12 by rw [List.length_cons]; omega), Bool.true_and, List.headD_cons, decide_eq_true hc, Bool.true_and, List.all_cons, Bool.and_eq_true]
  refine ⟨?_, List.all_eq_true.mpr hr⟩
  unfold okc
  rw [decide_eq_true hc, Bool.true_or]
theorem wd_inv {l : List Nat} (h : wd l = true) : ∃ c r, l = c :: r ∧ c ∈ LETTERS.cps.toList ∧ (∀ d ∈ l, okc d = true) ∧ l.length ≤ 12 := by
  unfold wd at h
  rw [Bool.and_eq_true, Bool.and_eq_true] at h
  obtain ⟨h1, h2, h3⟩ := h
  have h1 := of_decide_eq_true h1
  have h2 := of_decide_eq_true h2
  cases l with
  | nil => exact absurd h1.1 (by decide)
  | cons c r => exact ⟨c, r, rfl, h2, List.all_eq_true.mp h3, h1.2⟩
theorem okc_lt {c : Nat} (h : okc c = true) : c < 128 := by
  unfold okc at h
  rw [Bool.or_eq_true, decide_eq_true_iff, decide_eq_true_iff] at h
  rcases h with h | h
  · exact of_decide_eq_true (List.all_eq_true.mp (show LETTERS.cps.toList.all (fun c => decide (c < 128)) = true by decide) c h)
  · exact of_decide_eq_true (List.all_eq_true.mp (show DIGITS.cps.toList.all (fun c => decide (c < 128)) = true by decide) c h)
/-- a text that is a word -/
def Wd (z : Str) : Prop := wd z.cps.toList = true
theorem Wd.asc {z : Str} (h : Wd z) : Asc z := fun c hc => by
  obtain ⟨_, _, _, _, ho, _⟩ := wd_inv h
  exact okc_lt (ho c hc)
theorem Wd.len {z : Str} (h : Wd z) : z.length ≤ 12 := by
  obtain ⟨_, _, _, _, _, hl⟩ := wd_inv h
  exact hl
/-! ### thirty spare words -/
def spare (z : Str) (k : Nat) : Str := cutS z none (some 9) ++ "x" ++ (toString (k : Int) : Str)
theorem cut_take (z : Str) (n : Nat) : (cutS z none (some (n : Int))).cps.toList = z.cps.toList.take n := by
  unfold cutS
  rw [HT.sIx_none, HT.sIx_nat]
  show (List.take (min n z.length - 0) (List.drop 0 z.cps.toList)).toArray.toList = _
  rw [List.drop_zero, Nat.sub_zero]
  show List.take (min n z.length) z.cps.toList = _
  rw [len_cps, Nat.min_comm]
  by_cases h : n ≤ z.cps.toList.length
  · rw [Nat.min_eq_right h]
  · rw [Nat.min_eq_left (by omega), List.take_length, List.take_of_length_le (by omega)]
theorem spare_cps (z : Str) (k : Nat) : (spare z k).cps.toList = z.cps.toList.take 9 ++ ([120] ++ (toString (k : Int) : Str).cps.toList) := by
  unfold spare
  rw [Str.cps_append, Array.toList_append, Str.cps_append, Array.toList_append, show (9 : Int) = ((9 : Nat) : Int) from rfl, cut_take, List.append_assoc]
  rfl
theorem digs30 : (List.range 30).all (fun k => decide ((toString (k : Int) : Str).cps.toList.length ≤ 2) && (toString (k : Int) : Str).cps.toList.all fun c => decide (c ∈ DIGITS.cps.toList)) = true := by decide +kernel
theorem digs_inj : (List.range 30).all (fun k => (List.range 30).all fun j => decide ((toString (k : Int) : Str).cps.toList = (toString (j : Int) : Str).cps.toList → k = j)) = true := by decide +kernel
theorem spare_wd {z : Str} (h : Wd z) {k : Nat} (hk : k < 30) : Wd (spare z k) := by
  obtain ⟨c, r, e, hc, ho, hl⟩ := wd_inv h
  have hd := List.all_eq_true.mp digs30 k (List.mem_range.mpr hk)
  rw [Bool.and_eq_true, decide_eq_true_iff, List.all_eq_true] at hd
  show wd (spare z k).cps.toList = true
  rw [spare_cps, e, List.take_succ_cons, List.cons_append]
  refine wd_cons hc (fun d hd' => ?_) ?_
  · rcases List.mem_append.mp hd' with h1 | h1
    · exact ho d (by rw [e]; exact List.mem_cons_of_mem _ (List.mem_of_mem_take h1))
    · rcases List.mem_append.mp h1 with h2 | h2
      · rw [List.mem_singleton.mp h2]
        decide
      · have := of_decide_eq_true (hd.2 d h2)
        unfold okc
        rw [decide_eq_true this, Bool.or_true]
  · rw [List.length_append, List.length_take, List.length_append]
    have := hd.1
    show min 8 r.length + (1 + _) ≤ 11
    omega
theorem str_ext {x y : Str} (h : x.cps.toList = y.cps.toList) : x = y := by
  obtain ⟨⟨a⟩⟩ := x
  obtain ⟨⟨b⟩⟩ := y
  have : a = b := h
  rw [this]
theorem spare_inj {z : Str} {k j : Nat} (hk : k < 30) (hj : j < 30) (h : spare z k = spare z j) : k = j := by
  have e : (spare z k).cps.toList = (spare z j).cps.toList := by rw [h]
  rw [spare_cps, spare_cps] at e
  have e2 := List.append_cancel_left (List.append_cancel_left e)
  have d := List.all_eq_true.mp (List.all_eq_true.mp digs_inj k (List.mem_range.mpr hk)) j (List.mem_range.mpr hj)
  exact of_decide_eq_true d e2
theorem nodup_sub {α : Type} [DecidableEq α] : ∀ {l m : List α}, l.Nodup → (∀ x ∈ l, x ∈ m) → l.length ≤ m.length
  | [], _, _, _ => Nat.zero_le _
  | a :: l, m, hn, hs => by
    obtain ⟨ha, hn⟩ := List.nodup_cons.mp hn
    have h1 : a ∈ m := hs a (List.mem_cons_self ..)
    have h2 : l.length ≤ (m.erase a).length := nodup_sub hn fun x hx => by
      have ne : x ≠ a := fun e => ha (e ▸ hx)
      exact (List.mem_erase_of_ne ne).mpr (hs x (List.mem_cons_of_mem _ hx))
    rw [List.length_erase_of_mem h1] at h2
    have : 0 < m.length := List.length_pos_of_mem h1
    rw [List.length_cons]
    omega
def spares (z : Str) : List Str := (List.range 30).map (spare z)
theorem spares_nodup (z : Str) : (spares z).Nodup := by
  unfold spares
  rw [List.nodup_iff_pairwise_ne, List.pairwise_map]
  refine List.Pairwise.imp_of_mem (R := fun a b => a ≠ b) (fun {a b} ha hb hab e => hab ?_) List.nodup_range
  exact spare_inj (List.mem_range.mp ha) (List.mem_range.mp hb) e
theorem spare_some {z : Str} {ws : List Str} (h : ws.length < 30) : ∃ y r, (spares z).filter (fun o => decide (o ∉ ws)) = y :: r := by
  cases e : (spares z).filter (fun o => decide (o ∉ ws)) with
  | cons y r => exact ⟨y, r, rfl⟩
  | nil =>
    have h1 := List.filter_eq_nil_iff.mp e
    have h2 : (spares z).length ≤ ws.length := nodup_sub (spares_nodup z) fun x hx => by
      have := h1 x hx
      simpa using this
    unfold spares at h2
    rw [List.length_map, List.length_range] at h2
    omega
theorem spares_wd {z y : Str} (h : Wd z) (hy : y ∈ spares z) : Wd y := by
  obtain ⟨k, hk, rfl⟩ := List.mem_map.mp hy
  exact spare_wd h (List.mem_range.mp hk)
/-! ### a list of names -/
/-- the first name at fault: true: not known; false: it occurred before -/
def chk (ks : List Str) : List Str → List Str → Option (Bool × Str)
  | _, [] => none
  | seen, n :: r => if n ∈ ks then (if n ∈ seen then some (false, n) else chk ks (seen ++ [n]) r) else some (true, n)
theorem chk_cons (ks seen : List Str) (n : Str) (r : List Str) : chk ks seen (n :: r) = if n ∈ ks then (if n ∈ seen then some (false, n) else chk ks (seen ++ [n]) r) else some (true, n) := rfl
theorem chk_none {ks : List Str} : ∀ {ws seen : List Str}, chk ks seen ws = none ↔ ws.Nodup ∧ (∀ w ∈ ws, w ∈ ks ∧ w ∉ seen)
  | [], seen => by simp [chk]
  | n :: r, seen => by
    rw [chk_cons]
    by_cases h1 : n ∈ ks
    · rw [if_pos h1]
      by_cases h2 : n ∈ seen
      · rw [if_pos h2]
        constructor
        · intro h; cases h
        · intro h; exact absurd h2 (h.2 n (List.mem_cons_self ..)).2
      · rw [if_neg h2, chk_none, List.nodup_cons]
        constructor
        · rintro ⟨a, b⟩
          refine ⟨⟨fun hn => ?_, a⟩, fun w hw => ?_⟩
          · exact (b n hn).2 (List.mem_append_right _ (List.mem_singleton.mpr rfl))
          · rcases List.mem_cons.mp hw with rfl | hw
            · exact ⟨h1, h2⟩
            · exact ⟨(b w hw).1, fun h => (b w hw).2 (List.mem_append_left _ h)⟩
        · rintro ⟨⟨a, b⟩, c⟩
          refine ⟨b, fun w hw => ⟨(c w (List.mem_cons_of_mem _ hw)).1, fun h => ?_⟩⟩
          rcases List.mem_append.mp h with h | h
          · exact (c w (List.mem_cons_of_mem _ hw)).2 h
          · rw [List.mem_singleton.mp h] at hw
            exact a hw
    · rw [if_neg h1]
      constructor
      · intro h; cases h
      · intro h; exact absurd (h.2 n (List.mem_cons_self ..)).1 h1
theorem chk_mem {ks : List Str} {b : Bool} {n : Str} : ∀ {ws seen : List Str}, chk ks seen ws = some (b, n) → n ∈ ws
  | [], _, h => by cases h
  | m :: r, seen, h => by
    rw [chk_cons] at h
    by_cases h1 : m ∈ ks
    · rw [if_pos h1] at h
      by_cases h2 : m ∈ seen
      · rw [if_pos h2] at h
        cases h
        exact List.mem_cons_self ..
      · rw [if_neg h2] at h
        exact List.mem_cons_of_mem _ (chk_mem h)
    · rw [if_neg h1] at h
      cases h
      exact List.mem_cons_self ..
/-! ### from the written part to the facts above -/
section
variable {P : Program} {K : PySem.W.Frag} {h : Heap} {mg : Str → Option Value}
theorem src_mk {x : Str} {st : Stmt} {ps : List Str} {f : Addr} {oc : Value} {od an : Option Addr} {osl : Array (Option Value)} {kV doc pm cdv ct : Value} (X : K.In h) (G : h.Ns mainGlobals mg)
    (a : PySem.W.nsIn K mainGlobals x = some (some (.ref f))) (l : K.lookup f = some ⟨oc, od, .func (PySem.W.fnOf x x (defArgs st) (defBody st) (defScope st) .none kV doc pm an cdv ct), osl⟩)
    (c : PySem.W.codeIn K cdv x = true) (k : PySem.W.keepIn K (.ref f) = true)
    (hb : ∀ (kV doc pm : Value) (an : Option Addr) (cdv ct : Value) (us : List Value), us.length = ps.length → bindArgs (PySem.W.fnOf x x (defArgs st) (defBody st) (defScope st) .none kV doc pm an cdv ct) ⟨us, []⟩ = pure (ps.zip us)) : Src K mg x st ps :=
  ⟨f, _, PySem_Fun_a (fun_mk l c k), PySem.W.mg_of X G a, (fun_mk (st := st) l c k).binds hb⟩
theorem glo_str {x z : Str} {t : Tok} (X : K.In h) (G : h.Ns mainGlobals mg) (a : PySem.W.nsIn K mainGlobals x = some (some (.str z t))) : Glo mg x (.str z) := ⟨_, PySem.W.mg_of X G a, t, rfl⟩
theorem glo_int {x : Str} {i : Int} {t : Tok} (X : K.In h) (G : h.Ns mainGlobals mg) (a : PySem.W.nsIn K mainGlobals x = some (some (.int i t))) : Glo mg x (.int i) := ⟨_, PySem.W.mg_of X G a, t, rfl⟩
theorem glo_ref {x : Str} {a : Addr} (X : K.In h) (G : h.Ns mainGlobals mg) (e : PySem.W.nsIn K mainGlobals x = some (some (.ref a))) : Glo mg x (.ref a) := ⟨_, PySem.W.mg_of X G e, rfl⟩
theorem err_mk {cn qual : Str} {tm : Bool} {C fI : Addr} {fs : List Str} {st : Stmt} {nm q : Str} {N : Addr} {bs bm : List Value} {sn : List Str} {sub : List Value} {ab : Bool} {col : Option Bool} {dd : Option Addr} {m0 m1 m2 m3 m5 : Option Value}
    {oc : Value} {od an : Option Addr} {osl : Array (Option Value)} {kV doc pm ct : Value} {cda cc : Addr} {ccl cl : Value} {cdd cld : Option Addr} {ccs csl : Array (Option Value)} {vs : Array Value} {file : Str} {tf : Tok} {msg : Expr} {p1 p2 p3 p4 p5 : Pos} {fp : List FP} {ar : Arg}
    (X : K.In h) (G : h.Ns mainGlobals mg) (aC : PySem.W.nsIn K mainGlobals cn = some (some (.ref C))) (aS : PySem.W.nsIn K mainGlobals "super" = some none)
    (xL : K.lookup C = some (excClassObj nm q C N bs bm true sn sub ab col dd m0 m1 m2 m3 m5 "ValueError.__new__")) (hbm : PySem.HandSPX.refsVE bm = true)
    (sa : PySem.W.findIn K (.ref C) "__setattr__" = some (some (.builtin "object.__setattr__"))) (ga : PySem.W.findIn K (.ref C) "__getattribute__" = some (some (.builtin "BaseException.__getattribute__"))) (gg : PySem.W.findIn K (.ref C) "__getattr__" = some none)
    (noN : ∀ f ∈ fs, PySem.W.findIn K (.ref C) f = some none)
    (iC : PySem.W.findIn K (.ref C) "__init__" = some (some (.ref fI))) (tI : PySem.W.typeIn K (.ref fI) = some (.type "function")) (kC : PySem.W.keepIn K (.ref C) = true)
    (exC : PySem.W.subIn K (.ref C) (.type "BaseException") = some true) (veC : PySem.W.subIn K (.ref C) (.type "ValueError") = some true) (tyC : PySem.W.typeIn K (.ref C) = some (.type "type")) (hdC : PySem.W.hasDictIn K C = true)
    (sup : PySem.W.ks_superIn K C C "__init__" = some (some (.builtin "ValueError.__init__"))) (mro : PySem.W.mroIn K C (.ref C) = some true) (su : PySem.W.subIn K (.ref C) (.ref C) = some true)
    (ca : PySem.W.findIn K (.ref C) "__class__" = some (some (.builtin "object.__class__"))) (cg : PySem.W.specialIn K (.builtin "object.__class__") "__get__" = some (some (.builtin "getset_descriptor.__get__"))) (ct' : PySem.W.takesIn K (.builtin "object.__class__") = some true)
    (mo : PySem.W.mroIn K C (.type "object") = some true) (opq : PySem.W.nsIn K cStatics "thirdparty.any" = some none)
    (top : (P.main.scope.names.lookup ("super" : Str)).isSome = false)
    (l : K.lookup fI = some ⟨oc, od, .func (PySem.W.ksFn "__init__" qual (defArgs st) (defBody st) (defScope st) .none kV doc pm an (.ref cda) ct cc), osl⟩) (c : PySem.W.codeIn K (.ref cda) qual = true)
    (lc : K.lookup cda = some ⟨ccl, cdd, .fields vs, ccs⟩) (hv2 : vs[2]? = some (.str file tf)) (hfile : ((P.main.file : Str) == file) = true) (lcc : K.lookup cc = some ⟨cl, cld, .cell (some (.ref C)), csl⟩)
    (hbody : defBody st = stS msg p1 p2 p3 p4 p5 :: fp.map stF) (har : ((defArgs st).posonlyargs ++ (defArgs st).args).head? = some ar) (hself : ar.arg = "self") (hfp : fp.map (·.1) = fs) (hpos : (p3.endLine == p4.line) = true)
    (h1 : (defScope st).names.lookup ("super" : Str) = some .globalImplicit) (h2 : (defScope st).names.lookup ("__class__" : Str) = some .free) (h3 : (defScope st).names.lookup ("self" : Str) = some .local) (h4 : ∀ f ∈ fs, (defScope st).names.lookup f = some .local) (h5 : ∀ f ∈ fs, (f == ("__debug__" : Str)) = false) (h6 : ∀ y ∈ (defScope st).names, y.2 ≠ .cell)
    (h7 : (defScope st).kind = .function) (h8 : (defScope st).isGenerator = false) (h9 : (defScope st).isCoroutine = false)
    (hbind : ∀ (kV doc pm : Value) (an : Option Addr) (cda : Addr) (ct : Value) (cc : Addr) (s : Shared) (x : Value) (us : List Value), us.length = fs.length → BindsTo s (PySem.W.ksFn "__init__" qual (defArgs st) (defBody st) (defScope st) .none kV doc pm an (.ref cda) ct cc) ⟨x :: us, []⟩ (("self", x) :: fs.zip us))
    (hlook : ∀ (x : Value) (us : List Value), us.length = fs.length → ((("self" : Str), x) :: fs.zip us).reverse.lookup ("self" : Str) = some x ∧ Paired (fun f u => ((("self" : Str), x) :: fs.zip us).reverse.lookup f = some u) fs us)
    (hmsg : (tm = false ∧ ∃ (z : Str) (i : Nat) (p : Pos), msg = .Constant (.str z) i p) ∨ tm = true ∧ ∃ (z f : Str) (i : Nat) (p p' p'' : Pos), msg = .BinOp (.Constant (.str z) i p) .Add (.Name f p') p'' ∧ z.length ≤ 100 ∧ fs.head? = some f) :
    ErrTxt P K mg tm cn C fI fs where
  cls := ⟨nm, q, N, bs, bm, sn, sub, ab, col, dd, m0, m1, m2, m3, m5, xL, hbm⟩
  sa := sa
  noN := noN
  gC := PySem.W.mg_of X G aC
  ga := ga
  gg := gg
  iC := iC
  tC := tI
  kC := kC
  exC := exC
  veC := veC
  tyC := tyC
  hdC := hdC
  sup := sup
  mro := mro
  sub := su
  ca := ca
  cg := cg
  ct := ct'
  mo := mo
  opq := opq
  msup := PySem.W.mg_none_of X G aS
  top := top
  fn := by
    rw [hbody] at l
    refine ⟨oc, od, qual, defArgs st, defScope st, msg, p1, p2, p3, p4, p5, fp, .none, kV, doc, pm, an, cda, cc, ct, osl, ar, ccl, cl, cdd, cld, ccs, csl, vs, file, tf, l, c, har, hself, lc, hv2, hfile, lcc, hfp, hpos, ⟨h1, h2, h3, h4, h5, h6⟩, ⟨h7, h8, h9⟩, ?_, hlook, hmsg⟩
    intro s x us hl
    have := hbind kV doc pm an cda ct cc s x us hl
    rw [hbody] at this
    exact this
end
end L2

set_option Elab.async false
set_option linter.all false
set_option maxRecDepth 100000
set_option maxHeartbeats 4000000
/-! Methods and new instances of own classes by their names; what is raised is wished at the slots. -/
namespace L2
open PySem PySem.Spec PyProof.Rows PySem.HErr
/-- a method of the text stands in its class -/
structure SrcM (K : PySem.W.Frag) (C : Addr) (m qual : Str) (st : Stmt) (ps : List Str) : Prop where
  ex : ∃ f fd, FunA K m qual st f fd ∧ Meth K C m f ∧ Binds K fd ps []
/-- the method m of the class at C keeps the promise sp -/
structure DefM (P : Program) (w : World) (K : PySem.W.Frag) (mg : Str → Option Value) (base : Heap) (CX : CXT) (k : Nat) (C : Addr) (m : Str) (ps : List Str) (sp : Sp) : Prop where
  ex : ∃ f fd, LkF K f fd ∧ Meth K C m f ∧ Binds K fd ps [] ∧ FnOk P w K mg base CX k f fd ps sp
/-- __init__ of the class at C stands in it; ds: the values of defaults that are left out -/
structure SrcI (K : PySem.W.Frag) (C : Addr) (qual : Str) (st : Stmt) (ps : List Str) : Prop where
  ex : ∃ f fd, FunA K "__init__" qual st f fd ∧ Mk K C f ∧ Binds K fd ps []
structure DefI (P : Program) (w : World) (K : PySem.W.Frag) (mg : Str → Option Value) (base : Heap) (CX : CXT) (k : Nat) (C : Addr) (ps : List Str) (sp : Sp) : Prop where
  ex : ∃ f fd, LkF K f fd ∧ Mk K C f ∧ Binds K fd ps [] ∧ FnOk P w K mg base CX k f fd ps sp
section
variable {P : Program} {w : World} {K : PySem.W.Frag} {mg : Str → Option Value} {base : Heap} {CX : CXT} {m qual : Str} {C : Addr} {st : Stmt} {N ps : List Str} {k : Nat} {sp : Sp}
theorem DefM.mono {j : Nat} (D : DefM P w K mg base CX j C m ps sp) (h : j ≤ k) : DefM P w K mg base CX k C m ps sp := by
  obtain ⟨f, fd, hlk, h1, h2, h3⟩ := D.ex
  exact ⟨f, fd, hlk, h1, h2, h3.mono h⟩
theorem DefI.mono {j : Nat} (D : DefI P w K mg base CX j C ps sp) (h : j ≤ k) : DefI P w K mg base CX k C ps sp := by
  obtain ⟨f, fd, hlk, h1, h2, h3⟩ := D.ex
  exact ⟨f, fd, hlk, h1, h2, h3.mono h⟩
theorem SrcM.ok (F : SrcM K C m qual st ps) (S : FnScope N ps (defScope st)) (len : ∀ vs H Q E, sp vs H Q E → vs.length = ps.length)
    (hbody : ∀ (f : Addr) (cdv : Value) (A : Around) (outer : List Env) (s : Shared) (H : Hp) (vs : List V) (Q : VK) (E : XK), Room k (A.deeper (envOfC qual (defScope st) s.heap.objs.size f cdv)) → sp vs H Q E →
      ∃ t, PSs (cxOf CX0 P w K mg base N qual (defScope st) f cdv A outer s H E).nox (defBody st) t ∧ t { nx := fun _ H' => Q .non H', rt := Q } (start N vs) H) : DefM P w K mg base CX0 (k + 1) C m ps sp := by
  obtain ⟨f, fd, h1, h2, h3⟩ := F.ex
  exact ⟨f, fd, h1.lk, h2, h3, h1.ok S len (hbody f)⟩
theorem SrcM.okX (F : SrcM K C m qual st ps) (S : FnScope N ps (defScope st)) (len : ∀ vs H Q E, sp vs H Q E → vs.length = ps.length)
    (hbody : ∀ (f : Addr) (cdv : Value) (A : Around) (outer : List Env) (s : Shared) (H : Hp) (vs : List V) (Q : VK) (E : XK), Room k (A.deeper (envOfC qual (defScope st) s.heap.objs.size f cdv)) → sp vs H Q E →
      ∃ t, PSs (cxOf (L2.CX P w) P w K mg base N qual (defScope st) f cdv A outer s H E) (defBody st) t ∧ t { nx := fun _ H' => Q .non H', rt := Q } (start N vs) H) : DefM P w K mg base (L2.CX P w) (k + 1) C m ps sp := by
  obtain ⟨f, fd, h1, h2, h3⟩ := F.ex
  exact ⟨f, fd, h1.lk, h2, h3, h1.okX S len (hbody f)⟩
theorem SrcI.okX (F : SrcI K C qual st ps) (S : FnScope N ps (defScope st)) (len : ∀ vs H Q E, sp vs H Q E → vs.length = ps.length)
    (hbody : ∀ (f : Addr) (cdv : Value) (A : Around) (outer : List Env) (s : Shared) (H : Hp) (vs : List V) (Q : VK) (E : XK), Room k (A.deeper (envOfC qual (defScope st) s.heap.objs.size f cdv)) → sp vs H Q E →
      ∃ t, PSs (cxOf (L2.CX P w) P w K mg base N qual (defScope st) f cdv A outer s H E) (defBody st) t ∧ t { nx := fun _ H' => Q .non H', rt := Q } (start N vs) H) : DefI P w K mg base (L2.CX P w) (k + 1) C ps sp := by
  obtain ⟨f, fd, h1, h2, h3⟩ := F.ex
  exact ⟨f, fd, h1.lk, h2, h3, h1.okX S len (hbody f)⟩
theorem SrcI.ok (F : SrcI K C qual st ps) (S : FnScope N ps (defScope st)) (len : ∀ vs H Q E, sp vs H Q E → vs.length = ps.length)
    (hbody : ∀ (f : Addr) (cdv : Value) (A : Around) (outer : List Env) (s : Shared) (H : Hp) (vs : List V) (Q : VK) (E : XK), Room k (A.deeper (envOfC qual (defScope st) s.heap.objs.size f cdv)) → sp vs H Q E →
      ∃ t, PSs (cxOf CX0 P w K mg base N qual (defScope st) f cdv A outer s H E).nox (defBody st) t ∧ t { nx := fun _ H' => Q .non H', rt := Q } (start N vs) H) : DefI P w K mg base CX0 (k + 1) C ps sp := by
  obtain ⟨f, fd, h1, h2, h3⟩ := F.ex
  exact ⟨f, fd, h1.lk, h2, h3, h1.ok S len (hbody f)⟩
end
theorem passAt0 {X : Cx} (σ : St) : PassesAt CX0 X σ E0 := fun _ _ _ _ _ _ h => h.elim
theorem Passes.at {CX : CXT} {X : Cx} {E : XK} (h : Passes CX X E) (σ : St) : PassesAt CX X σ E := fun pins H s e s' I c => h pins σ H s e s' I c
/-- o.m(..) -/
def tMetD (C : Addr) (m : Str) (sp : Sp) (E : St → XK) (ta : TE) (t : TA) : TE := fun σ H Q => ta σ H fun x H1 => ∃ a dx fs, x = .ref a ∧ H1 a = some (.ins C dx fs) ∧ fs.lookup m = none ∧ t σ H1 fun vs H2 => sp (x :: vs) H2 Q (E σ)
/-- C(..) -/
def tMkD (C : Addr) (sp : Sp) (E : St → XK) (t : TA) : TE := fun σ H Q => t σ H fun vs H1 => ∀ x dx, H1 x = none → H1 dx = none → dx ≠ x →
  sp (.ref x :: vs) (upd (upd H1 dx (.own x)) x (.ins C dx [])) (fun v H2 => v = .non ∧ Q (.ref x) H2) (E σ)
section
variable {X : Cx} {CX : CXT} {k : Nat} {C : Addr} {ps : List Str} {sp : Sp} {E : St → XK} {x m : Str} {p pos apos : Pos} {e o : Expr} {es : List Expr} {ta : TE} {t : TA}
theorem pe_metD {pl : Sem Bool} (D : DefM X.prog X.w X.K X.mg X.base CX k C m ps sp) (c : Cls X.K C) (hr : Room k X.A) (hx : ∀ σ, PassesAt CX X σ (E σ)) (he : PE X o ta) (ha : PA X (e :: es) t)
    (hst : starEach (e :: es) X.env = (false, eval e X.env) :: starEach es X.env := by rfl) (hpl : (backTo pos (starEach es X.env)).any (·.1) = false := by rfl)
    (ht : eval (.Call (.Attribute o m apos) (e :: es) [] pos) X.env = (do
      let ov ← eval o X.env
      standAt apos.atName
      let (f, first) ← holding [ov] (getMethod ov m pl)
      callWith pos f first (backTo pos (starEach (e :: es) X.env)) (backToKw pos (keywordEach [] X.env))) := by rfl) :
    PE X (.Call (.Attribute o m apos) (e :: es) [] pos) (tMetD C m sp E ta t) := by
  obtain ⟨f, fd, hlk, hm, hb, F⟩ := D.ex
  refine ⟨fun pins s σ H Q I h => ?_⟩
  refine PySem.W.methodCall_KW (pl := pl) (thn (he.run pins s σ H _ I h) fun u s1 ⟨x, H1, I1, rx, a, dx, fs, ex, ea, l, q⟩ => ?_) ht
  subst ex
  obtain rfl : u = Value.ref a := rx
  refine getmeth_ok I1 ea c hm l ?_
  refine PySem.W.callWith_K (first := [.ref a]) (h₀ := X.base) I.ok.mod.kin hm.kp (thn (ha.run pos pins s1 σ H1 _ I1 q) fun us s2 ⟨vs, H2, I2, r, q2⟩ => ⟨I2.kIn, ?_⟩) hst hpl
  exact run_fnS (us := .ref a :: us) (vs := .ref a :: vs) F hr hb (hx σ) I2 (.cons rfl r) q2
theorem pe_metD0 {pl : Sem Bool} (D : DefM X.prog X.w X.K X.mg X.base CX k C m ps sp) (c : Cls X.K C) (hr : Room k X.A) (hx : ∀ σ, PassesAt CX X σ (E σ)) (he : PE X o ta)
    (ht : eval (.Call (.Attribute o m apos) [] [] pos) X.env = (do
      let ov ← eval o X.env
      standAt apos.atName
      let (f, first) ← holding [ov] (getMethod ov m pl)
      callWith pos f first (backTo pos (starEach [] X.env)) (backToKw pos (keywordEach [] X.env))) := by rfl) :
    PE X (.Call (.Attribute o m apos) [] [] pos) (tMetD C m sp E ta tNil) := by
  obtain ⟨f, fd, hlk, hm, hb, F⟩ := D.ex
  refine ⟨fun pins s σ H Q I h => ?_⟩
  refine PySem.W.methodCall_KW (pl := pl) (thn (he.run pins s σ H _ I h) fun u s1 ⟨x, H1, I1, rx, a, dx, fs, ex, ea, l, q⟩ => ?_) ht
  subst ex
  obtain rfl : u = Value.ref a := rx
  refine getmeth_ok I1 ea c hm l ?_
  exact PySem.W.callWith_K0 (first := [.ref a]) I1.kIn hm.kp (run_fnS (us := [.ref a]) (vs := [.ref a]) F hr hb (hx σ) I1 (.cons rfl .nil) q)
theorem pe_mkD (D : DefI X.prog X.w X.K X.mg X.base CX k C ps sp) (hm : X.mg x = some (.ref C)) (hr : Room (k + 1) X.A) (hx : ∀ σ, PassesAt CX X σ (E σ)) (ha : PA X (e :: es) t) (hg : Gl X x := by rfl)
    (hdb : (x == ("__debug__" : Str)) = false := by decide) (he : starEach (e :: es) X.env = (false, eval e X.env) :: starEach es X.env := by rfl) (hpl : (backTo pos (starEach es X.env)).any (·.1) = false := by rfl) :
    PE X (.Call (.Name x p) (e :: es) [] pos) (tMkD C sp E t) := by
  obtain ⟨f, fd, hlk, M, hb, F⟩ := D.ex
  refine ⟨fun pins s0 σ H0 Q I0 h0 => ?_⟩
  refine wpAny_Call_Name_kw (ld_glob I0 hg hm ?_ hdb)
  refine PySem.W.callWith_K (h₀ := X.base) I0.ok.mod.kin M.kp (thn (ha.run pos pins s0 σ H0 _ I0 h0) fun us s ⟨vs, H, I, r, h⟩ => ⟨I.kIn, ?_⟩) he hpl
  show wpAny _ _ (call (.ref C) us) _ _ _
  have hq := h (s.heap.objs.size + 1) s.heap.objs.size (I.hok.fresh (Nat.le_succ _)) (I.hok.fresh (Nat.le_refl _)) (Nat.ne_of_lt (Nat.lt_succ_self _))
  have I2 := Inv.made (C := C) I
  have r2 : Vals (V.ref (s.heap.objs.size + 1) :: vs) (Value.ref (s.heap.objs.size + 1) :: us) := .cons rfl r
  have hl : ((Value.ref (s.heap.objs.size + 1) :: us) ++ []).length = ps.length := by
    have e := r2.length
    rw [F.len _ _ _ _ hq] at e
    rw [List.append_nil]
    exact e.symm
  have hbb := hb _ (Value.ref (s.heap.objs.size + 1) :: us) I2.kIn hl
  rw [List.append_nil] at hbb
  refine wpAny_call (make_map (f := f) I.kIn M.makes M.init (beq_iff_eq.mp M.fn) (codeAny_mono (F.run _ X.stack _ _ ⟨Value.ref (s.heap.objs.size + 1) :: us, []⟩ (Value.ref (s.heap.objs.size + 1) :: us) _ _ (E σ) (hr.make C us [])
    (I2.env0.make C us []) hbb r2 hq) fun r s' hq' => ?_))
  cases r with
  | error e => exact hx σ pins _ _ e s' I2 hq'
  | ok fl =>
    cases fl with
    | ret u =>
      obtain ⟨v, H', I3, rv, ev, q3⟩ := I2.after hq'
      subst ev
      exact ⟨rv, ⟨V.ref (s.heap.objs.size + 1), H', I3, rfl, q3⟩⟩
    | next => exact False.elim hq'
    | brk => exact False.elim hq'
    | cont => exact False.elim hq'
theorem kps_fld {K : PySem.W.Frag} {f : Str} {value : Expr} {pos' : Pos} {tv : TE} (ha : PE X o ta) (hv : PE X value tv) (hs : swapsWith value (some (.Attribute o f pos')) pos.line X.env = pure false := by rfl) (hK : X.K = K := by rfl) :
    PS X (.Assign [.Attribute o f pos'] value pos) (sFld K ta tv f) := hK ▸ ps_fld ha hv hs
theorem srcM_mk {K : PySem.W.Frag} {qual : Str} {st : Stmt} {f : Addr} {oc : Value} {od an : Option Addr} {osl : Array (Option Value)} {kV doc pm cdv ct : Value}
    (a : PySem.W.findIn K (.ref C) m = some (some (.ref f))) (i : PySem.W.isFn K (.ref f) = true) (l : K.lookup f = some ⟨oc, od, .func (PySem.W.fnOf m qual (defArgs st) (defBody st) (defScope st) .none kV doc pm an cdv ct), osl⟩)
    (c : PySem.W.codeIn K cdv qual = true) (k : PySem.W.keepIn K (.ref f) = true)
    (hb : ∀ (kV doc pm : Value) (an : Option Addr) (cdv ct : Value) (us : List Value), us.length = ps.length → bindArgs (PySem.W.fnOf m qual (defArgs st) (defBody st) (defScope st) .none kV doc pm an cdv ct) ⟨us, []⟩ = pure (ps.zip us)) : SrcM K C m qual st ps :=
  ⟨f, _, PySem_Fun_a (fun_mk l c k), ⟨a, i, k⟩, (fun_mk (st := st) l c k).binds hb⟩
theorem srcI_mk {K : PySem.W.Frag} {qual : Str} {st : Stmt} {f : Addr} {oc : Value} {od an : Option Addr} {osl : Array (Option Value)} {kV doc pm cdv ct : Value}
    (mk : PySem.W.makesIn K C = true) (kc : PySem.W.keepIn K (.ref C) = true)
    (a : PySem.W.findIn K (.ref C) "__init__" = some (some (.ref f))) (i : PySem.W.isFn K (.ref f) = true) (l : K.lookup f = some ⟨oc, od, .func (PySem.W.fnOf "__init__" qual (defArgs st) (defBody st) (defScope st) .none kV doc pm an cdv ct), osl⟩)
    (c : PySem.W.codeIn K cdv qual = true) (k : PySem.W.keepIn K (.ref f) = true)
    (hb : ∀ (kV doc pm : Value) (an : Option Addr) (cdv ct : Value) (us : List Value), us.length = ps.length → bindArgs (PySem.W.fnOf "__init__" qual (defArgs st) (defBody st) (defScope st) .none kV doc pm an cdv ct) ⟨us, []⟩ = pure (ps.zip us)) : SrcI K C qual st ps :=
  ⟨f, _, PySem_Fun_a (fun_mk l c k), ⟨mk, a, i, kc⟩, (fun_mk (st := st) l c k).binds hb⟩
end
end L2

set_option Elab.async false
set_option linter.all false
set_option maxRecDepth 100000
set_option maxHeartbeats 4000000
/-! Plans as plain data, how one stands in the heap, and which error is due. -/
namespace L2
open PySem PySem.Spec PyProof.Rows PySem.HErr
/-- an error of a plan -/
inductive PErr where
  | tooMany (kind : Str) (limit : Int)
  | badWord (w : Str)
  | double (n : Str)
  | badNumber (n : Int)
  | empty (n : Str)
  | unknown (n : Str)
def nameErr : Bool × Str → PErr
  | (true, n) => .unknown n
  | (false, n) => .double n
def placesDue : List Str → List (Str × Int) → Option PErr
  | _, [] => none
  | seen, (w, n) :: r => if wd w.cps.toList = true then (if w ∈ seen then some (.double w) else if 0 ≤ n ∧ n ≤ 99 then placesDue (seen ++ [w]) r else some (.badNumber n)) else some (.badWord w)
abbrev SRow := Str × List Str × List Str
def stepDue (places seen : List Str) (s : SRow) : Option PErr :=
  if wd s.1.cps.toList = true then (if s.1 ∈ seen then some (.double s.1) else if s.2.1 = [] then some (.empty s.1) else
    match chk places [] s.2.1 with
    | some x => some (nameErr x)
    | none => (chk places [] s.2.2).map nameErr) else some (.badWord s.1)
def stepsDue (places : List Str) : List Str → List SRow → Option PErr
  | _, [] => none
  | seen, s :: r => match stepDue places seen s with
    | some e => some e
    | none => stepsDue places (seen ++ [s.1]) r
def planDue (prs : List (Str × Int)) (srs : List SRow) : Option PErr :=
  if 12 < prs.length then some (.tooMany "places" 12) else if 16 < srs.length then some (.tooMany "steps" 16) else
    match placesDue [] prs with
    | some e => some e
    | none => stepsDue (prs.map (·.1)) [] srs
theorem placesDue_cons (seen : List Str) (w : Str) (n : Int) (r : List (Str × Int)) : placesDue seen ((w, n) :: r) = if wd w.cps.toList = true then (if w ∈ seen then some (.double w) else if 0 ≤ n ∧ n ≤ 99 then placesDue (seen ++ [w]) r else some (.badNumber n)) else some (.badWord w) := rfl
theorem stepsDue_cons (places seen : List Str) (s : SRow) (r : List SRow) : stepsDue places seen (s :: r) = match stepDue places seen s with
    | some e => some e
    | none => stepsDue places (seen ++ [s.1]) r := rfl
/-- names in the order of the places -/
def inOrd (places ns : List Str) : List Str := places.filter fun p => decide (p ∈ ns)
/-- a plan -/
structure PlanD where
  places : List Str
  begin : List Int
  steps : List SRow
def planOf (prs : List (Str × Int)) (srs : List SRow) : PlanD := ⟨prs.map (·.1), prs.map (·.2), srs.map fun s => (s.1, inOrd (prs.map (·.1)) s.2.1, inOrd (prs.map (·.1)) s.2.2)⟩
def PlanD.names (d : PlanD) : List Str := d.steps.map (·.1)
/-- a dict from words to tuples of words -/
def TabAt (H : Hp) (kvs : List (Key × V)) (rows : List (Str × List Str)) : Prop := Paired (fun (kv : Key × V) r => kv.1 = Sum.inr r.1 ∧ ∃ t, kv.2 = .ref t ∧ H t = some (.tup (r.2.map V.str))) kvs rows
/-- the plan d stands at x -/
structure PlanAt (H : Hp) (C x : Addr) (d : PlanD) : Prop where
  ex : ∃ (dx tp tb td tg ts : Addr) (kt kg : List (Key × V)), H x = some (.ins C dx [("places", .ref tp), ("begin", .ref tb), ("taken", .ref td), ("given", .ref tg), ("steps", .ref ts)]) ∧
    H tp = some (.tup (d.places.map V.str)) ∧ H tb = some (.tup (d.begin.map V.int)) ∧ H td = some (.dK kt) ∧ H tg = some (.dK kg) ∧ H ts = some (.tup (d.names.map V.str)) ∧
    TabAt H kt (d.steps.map fun s => (s.1, s.2.1)) ∧ TabAt H kg (d.steps.map fun s => (s.1, s.2.2))
theorem Paired.imp2 {α β : Type} {R S : α → β → Prop} (h : ∀ a b, R a b → S a b) : ∀ {l : List α} {m : List β}, Paired R l m → Paired S l m
  | _, _, .nil => .nil
  | _, _, .cons x y => .cons (h _ _ x) (Paired.imp2 h y)
theorem TabAt.keep {H H' : Hp} {kvs : List (Key × V)} {rows : List (Str × List Str)} (h : TabAt H kvs rows) (e : ∀ t l, H t = some (.tup l) → H' t = some (.tup l)) : TabAt H' kvs rows :=
  Paired.imp2 (fun _ _ ⟨h1, t, h2, h3⟩ => ⟨h1, t, h2, e t _ h3⟩) h
theorem PlanAt.keep {H H' : Hp} {C x : Addr} {d : PlanD} (h : PlanAt H C x d) (e : Same H H') : PlanAt H' C x d := by
  obtain ⟨dx, tp, tb, td, tg, ts, kt, kg, h1, h2, h3, h4, h5, h6, h7, h8⟩ := h.ex
  exact ⟨dx, tp, tb, td, tg, ts, kt, kg, e _ _ h1, e _ _ h2, e _ _ h3, e _ _ h4, e _ _ h5, e _ _ h6, h7.keep fun _ _ => e _ _, h8.keep fun _ _ => e _ _⟩
/-- rows of places, rows of steps, in the heap -/
def PRows (H : Hp) (a : Addr) (prs : List (Str × Int)) : Prop := ∃ ts : List Addr, H a = some (.lst (ts.map V.ref)) ∧ Paired (fun t (r : Str × Int) => H t = some (.tup [.str r.1, .int r.2])) ts prs
/-- a row of a step at t, its lists other than the one at a -/
def SRowIn (H : Hp) (a t : Addr) (r : SRow) : Prop := ∃ b c, H t = some (.tup [.str r.1, .ref b, .ref c]) ∧ H b = some (.lst (r.2.1.map V.str)) ∧ H c = some (.lst (r.2.2.map V.str)) ∧ b ≠ a ∧ c ≠ a
def SRows (H : Hp) (a : Addr) (srs : List SRow) : Prop := ∃ ts : List Addr, H a = some (.lst (ts.map V.ref)) ∧ Paired (SRowIn H a) ts srs
theorem PRows.keep {H H' : Hp} {a : Addr} {prs : List (Str × Int)} (h : PRows H a prs) (e : Same H H') : PRows H' a prs := by
  obtain ⟨ts, h1, h2⟩ := h
  exact ⟨ts, e _ _ h1, Paired.imp2 (fun _ _ h => e _ _ h) h2⟩
theorem SRows.keep {H H' : Hp} {a : Addr} {srs : List SRow} (h : SRows H a srs) (e : Same H H') : SRows H' a srs := by
  obtain ⟨ts, h1, h2⟩ := h
  exact ⟨ts, e _ _ h1, Paired.imp2 (fun _ _ ⟨b, c, x, y, z, u⟩ => ⟨b, c, e _ _ x, e _ _ y, e _ _ z, u⟩) h2⟩
theorem Paired.get {α β : Type} {R : α → β → Prop} : ∀ {l : List α} {m : List β} {i : Nat} {a : α}, Paired R l m → l[i]? = some a → ∃ b, m[i]? = some b ∧ R a b
  | _, _, _, _, .nil, h => by simp at h
  | _, _, 0, _, .cons x _, h => by cases h; exact ⟨_, rfl, x⟩
  | _, _, i + 1, _, .cons _ y, h => Paired.get (i := i) y h
theorem Paired.len {α β : Type} {R : α → β → Prop} : ∀ {l : List α} {m : List β}, Paired R l m → l.length = m.length
  | _, _, .nil => rfl
  | _, _, .cons _ y => by rw [List.length_cons, List.length_cons, Paired.len y]
theorem Paired.snoc {α β : Type} {R : α → β → Prop} {a : α} {b : β} (h : R a b) : ∀ {l : List α} {m : List β}, Paired R l m → Paired R (l ++ [a]) (m ++ [b])
  | _, _, .nil => .cons h .nil
  | _, _, .cons x y => .cons x (Paired.snoc h y)
/-- the classes of the errors of a plan -/
structure ECs where
  tooMany : Addr
  badWord : Addr
  double : Addr
  badNumber : Addr
  empty : Addr
  unknown : Addr
def PErr.cls (cs : ECs) : PErr → Addr
  | .tooMany _ _ => cs.tooMany
  | .badWord _ => cs.badWord
  | .double _ => cs.double
  | .badNumber _ => cs.badNumber
  | .empty _ => cs.empty
  | .unknown _ => cs.unknown
def PErr.fields : PErr → List (Str × V)
  | .tooMany k l => [("limit", .int l), ("kind", .str k)]
  | .badWord w => [("word", .str w)]
  | .double n => [("name", .str n)]
  | .badNumber n => [("number", .int n)]
  | .empty n => [("name", .str n)]
  | .unknown n => [("name", .str n)]
/-- an error e is what E wants -/
def RaisP (cs : ECs) (E : XK) (H : Hp) (e : PErr) : Prop := Rais E H (e.cls cs) e.fields
/-- the same, but the object at x may have changed -/
def RaisX (cs : ECs) (E : XK) (x : Addr) (H : Hp) (e : PErr) : Prop := ∀ H' d, SameB x H H' → H d = none → H' d = some (.xd e.fields) → E (.ref (e.cls cs)) (some d) H'
theorem RaisX.go {cs : ECs} {E : XK} {x d : Addr} {H H' : Hp} {e : PErr} (h : RaisX cs E x H e) (sm : SameB x H H') (n : H' d = none) (hx : ∃ o, H' x = some o) : E (.ref (e.cls cs)) (some d) (upd H' d (.xd e.fields)) := by
  have hd : d ≠ x := fun q => by
    obtain ⟨o, ho⟩ := hx
    rw [q, ho] at n
    cases n
  exact h _ d (fun a o ha e => by rw [upd_ne (ne_of_none (sm a o ha e) n)]; exact sm a o ha e) (sm.free hd n) upd_same
theorem valV_tab {H : Hp} : ∀ {kvs : List (Key × V)} {rows : List (Str × List Str)}, TabAt H kvs rows → ∀ n : Str,
    (n ∈ rows.map (·.1) → ∃ t l, valV kvs (Sum.inr n) = some (.ref t) ∧ H t = some (.tup (l.map V.str)) ∧ rows.lookup n = some l) ∧ (n ∉ rows.map (·.1) → valV kvs (Sum.inr n) = none)
  | _, _, .nil, n => ⟨(fun h => by cases h), fun _ => rfl⟩
  | kv :: kvs, r :: rows, .cons ⟨h1, t, h2, h3⟩ hr, n => by
    obtain ⟨ih1, ih2⟩ := valV_tab hr n
    by_cases e : r.1 = n
    · refine ⟨fun _ => ⟨t, r.2, ?_, h3, ?_⟩, fun h => absurd (List.mem_cons_self ..) (by rw [← e] at h; exact h)⟩
      · rw [valV_pos (by rw [h1, e]), h2]
      · obtain ⟨r1, r2⟩ := r
        have e : r1 = n := e
        rw [List.lookup_cons, e]
        simp
    · have hk : ¬ kv.1 = Sum.inr n := fun q => by rw [h1] at q; exact e (Sum.inr.inj q)
      refine ⟨fun h => ?_, fun h => ?_⟩
      · rcases List.mem_cons.mp h with h | h
        · exact absurd h.symm e
        · obtain ⟨t', l, a, b, c⟩ := ih1 h
          refine ⟨t', l, by rw [valV_neg hk]; exact a, b, ?_⟩
          obtain ⟨r1, r2⟩ := r
          have hne : (n == r1) = false := by simpa using fun q : n = r1 => e q.symm
          rw [List.lookup_cons, hne]
          exact c
      · rw [valV_neg hk]
        exact ih2 fun q => h (List.mem_cons_of_mem _ q)
/-- [row[0] for row in rows], the heads texts -/
theorem lc_heads {K : PySem.W.Frag} {σ : St} {H : Hp} {j r : Nat} {a : Addr} {ts : List Addr} {ws : List Str} {Q : VK} (ha : H a = some (.lst (ts.map V.ref))) (hp : Paired (fun t z => ∃ rest, H t = some (.tup (.str z :: rest))) ts ws) (hl : ws.length ≤ 1000)
    (hσ : σ[j]? = some (some (.ref a))) (hr : r < σ.length) (q : ∀ (D : Addr) (H' : Hp), H D = none → Same H H' → H' D = some (.lst (ws.map V.str)) → Q (.ref D) H') :
    tLc (iList K (tVar j)) (gName r) tYes (tOp (rIxT K) (tVar r) (tC (.int 0))) [r] σ H Q := by
  refine ⟨_, hσ, a, rfl, ⟨_, SqL.of ha⟩, fun D nD => lc_list (K := K) (a := a) (xs := ts.map V.ref) (fun i H' => Same H H' ∧ H' D = some (.lst ((ws.take i).map V.str))) ⟨same_upd nD, upd_same⟩ (fun i H' _ h' => SqL.of (h'.1 _ _ ha)) ?_ ?_⟩
  · rintro i x H' hi ⟨sm, hD⟩
    obtain ⟨t, ht, rfl⟩ := map_get hi
    obtain ⟨z, hz, rest, hrow⟩ := Paired.get hp ht
    refine ⟨?_, yes_if ?_⟩
    · show ((σ.set r none).set r (some (V.ref t))).set r none = σ.set r none
      rw [List.set_set, List.set_set]
    · have hv : ((σ.set r none).set r (some (V.ref t)))[r]? = some (some (V.ref t)) := by
        rw [List.getElem?_set_self (by rw [List.length_set]; exact hr)]
      refine ⟨_, hv, t, _, _, _, rfl, rfl, SqT.of (sm _ _ hrow), atI_nat (j := 0) rfl, _, hD, ?_, fun b o e => ?_, ?_⟩
      · rw [List.length_map, List.length_take]
        exact small1000 (by omega)
      · rw [upd_ne (ne_of_none e nD)]
        exact sm b o e
      · rw [upd_same, take_more hz, List.map_append]
        rfl
  · rintro H' ⟨sm, hD⟩
    rw [List.length_map, Paired.len hp, List.take_length] at hD
    exact q D H' nD sm hD
theorem PRows.heads {H : Hp} {ts : List Addr} {prs : List (Str × Int)} (h : Paired (fun t (r : Str × Int) => H t = some (.tup [.str r.1, .int r.2])) ts prs) : Paired (fun t z => ∃ rest, H t = some (.tup (.str z :: rest))) ts (prs.map (·.1)) := by
  induction h with
  | nil => exact .nil
  | cons a _ ih => exact .cons ⟨_, a⟩ ih
theorem SRows.heads {H : Hp} {a : Addr} {ts : List Addr} {srs : List SRow} (h : Paired (SRowIn H a) ts srs) : Paired (fun t z => ∃ rest, H t = some (.tup (.str z :: rest))) ts (srs.map (·.1)) := by
  induction h with
  | nil => exact .nil
  | cons a _ ih =>
    obtain ⟨b, c, h1, _⟩ := a
    exact .cons ⟨_, h1⟩ ih
/-- rows without what stands at b -/
theorem PRows.bx {b l : Addr} {H H' : Hp} {a : Addr} {prs : List (Str × Int)} (h : PRows H a prs) (e : Bx b l H H') : PRows H' a prs := by
  obtain ⟨ts, h1, h2⟩ := h
  obtain ⟨ns, i, c, r, hb, _⟩ := e.b0.ex
  have nt : ∀ {t : Addr} {xs : List V}, H t = some (.tup xs) → t ≠ b := fun {t xs} h q => by rw [q, hb] at h; cases h
  have nl : a ≠ b := fun q => by
    rw [q, hb] at h1
    have h1 : [V.int i, V.int c, V.int r, V.ref l] = ts.map V.ref := HO.lst.inj (Option.some.inj h1)
    cases ts with
    | nil => cases h1
    | cons t ts => cases h1
  exact ⟨ts, e.at h1 nl, Paired.imp2 (fun _ _ h => e.at h (nt h)) h2⟩
theorem lst_strs_ne {b l : Addr} {H : Hp} {a : Addr} {ws : List Str} (hb : Box H b l) (h : H a = some (.lst (ws.map V.str))) : a ≠ b := fun q => by
  obtain ⟨ns, i, c, r, hb, _⟩ := hb.ex
  rw [q, hb] at h
  have h1 : [V.int i, V.int c, V.int r, V.ref l] = ws.map V.str := HO.lst.inj (Option.some.inj h)
  cases ws with
  | nil => cases h1
  | cons t ts => cases h1
theorem lst_refs_ne {b l : Addr} {H : Hp} {a : Addr} {ts : List Addr} (hb : Box H b l) (h : H a = some (.lst (ts.map V.ref))) : a ≠ b := fun q => by
  obtain ⟨ns, i, c, r, hb, _⟩ := hb.ex
  rw [q, hb] at h
  have h1 : [V.int i, V.int c, V.int r, V.ref l] = ts.map V.ref := HO.lst.inj (Option.some.inj h)
  cases ts with
  | nil => cases h1
  | cons t ts => cases h1
theorem tup_ne {b l : Addr} {H : Hp} {a : Addr} {xs : List V} (hb : Box H b l) (h : H a = some (.tup xs)) : a ≠ b := fun q => by
  obtain ⟨ns, i, c, r, hb, _⟩ := hb.ex
  rw [q, hb] at h
  cases h
theorem SRows.bx {b l : Addr} {H H' : Hp} {a : Addr} {srs : List SRow} (h : SRows H a srs) (e : Bx b l H H') : SRows H' a srs := by
  obtain ⟨ts, h1, h2⟩ := h
  exact ⟨ts, e.at h1 (lst_refs_ne e.b0 h1), Paired.imp2 (fun _ _ ⟨x, y, h3, h4, h5, u⟩ => ⟨x, y, e.at h3 (tup_ne e.b0 h3), e.at h4 (lst_strs_ne e.b0 h4), e.at h5 (lst_strs_ne e.b0 h5), u⟩) h2⟩
theorem PRows.snoc {H : Hp} {a t : Addr} {ts : List Addr} {prs : List (Str × Int)} {r : Str × Int} (h1 : H a = some (.lst (ts.map V.ref))) (h2 : Paired (fun t (r : Str × Int) => H t = some (.tup [.str r.1, .int r.2])) ts prs) (ht : H t = some (.tup [.str r.1, .int r.2])) :
    PRows (upd H a (.lst (ts.map V.ref ++ [V.ref t]))) a (prs ++ [r]) := by
  have ne : ∀ {c : Addr} {xs : List V}, H c = some (.tup xs) → c ≠ a := fun {c xs} e q => by rw [q, h1] at e; cases e
  refine ⟨ts ++ [t], ?_, Paired.snoc ?_ (Paired.imp2 (fun c r e => ?_) h2)⟩
  · rw [upd_same, List.map_append]
    rfl
  · rw [upd_ne (ne ht)]
    exact ht
  · rw [upd_ne (ne e)]
    exact e
theorem SRows.snoc {H : Hp} {a t : Addr} {ts : List Addr} {srs : List SRow} {r : SRow} (h1 : H a = some (.lst (ts.map V.ref))) (h2 : Paired (SRowIn H a) ts srs) (ht : SRowIn H a t r) : SRows (upd H a (.lst (ts.map V.ref ++ [V.ref t]))) a (srs ++ [r]) := by
  have key : ∀ {t : Addr} {r : SRow} {o : HO}, SRowIn H a t r → SRowIn (upd H a o) a t r := fun {t r o} ⟨b, c, x, y, z, u1, u2⟩ =>
    ⟨b, c, by rw [upd_ne (fun q => by rw [q, h1] at x; cases x)]; exact x, by rw [upd_ne u1]; exact y, by rw [upd_ne u2]; exact z, u1, u2⟩
  refine ⟨ts ++ [t], ?_, Paired.snoc (key ht) (Paired.imp2 (fun _ _ e => key e) h2)⟩
  rw [upd_same, List.map_append]
  rfl
end L2

set_option Elab.async false
set_option linter.all false
set_option maxRecDepth 100000
set_option maxHeartbeats 4000000
/-! Rows of plans as the laws draw them: what is kept, and that no error is due. -/
namespace L2
open PySem PySem.Spec PyProof.Rows PySem.HErr
theorem Same.mut {p : Addr} {H H' : Hp} {o : HO} (h : Same H H') (n : H p = none) : Same H (upd H' p o) := fun a u e => by
  rw [upd_ne (ne_of_none e n)]
  exact h a u e
theorem Bx.strs {b l : Addr} {H H' : Hp} {a : Addr} {ws : List Str} (x : Bx b l H H') (h : H a = some (.lst (ws.map V.str))) : H' a = some (.lst (ws.map V.str)) := x.at h (lst_strs_ne x.b0 h)
theorem Bx.refs {b l : Addr} {H H' : Hp} {a : Addr} {ts : List Addr} (x : Bx b l H H') (h : H a = some (.lst (ts.map V.ref))) : H' a = some (.lst (ts.map V.ref)) := x.at h (lst_refs_ne x.b0 h)
theorem Bx.tup {b l : Addr} {H H' : Hp} {a : Addr} {xs : List V} (x : Bx b l H H') (h : H a = some (.tup xs)) : H' a = some (.tup xs) := x.at h (tup_ne x.b0 h)
/-! steps at the level of statements -/
theorem go_name {i : Nat} {v : V} {σ : L2.St} {H : Hp} {Q : L2.St → Hp → Prop} (h : Q (σ.set i (some v)) H) : gName i v σ H Q := h
theorem go_asg {te : TE} {g : TG} {u : TS} {D : Ends} {σ : L2.St} {H : Hp} (h : te σ H fun x H1 => g x σ H1 (u D)) : tSeq (tAsg te g) u D σ H := h
theorem go_op {R : R2} {ta tb : TE} {σ : L2.St} {H : Hp} {Q : VK} (h : ta σ H fun x H1 => tb σ H1 fun y H2 => R x y H2 Q) : tOp R ta tb σ H Q := h
theorem go_seq {t u : TS} {D : Ends} {σ : L2.St} {H : Hp} (h : t { D with nx := u D } σ H) : tSeq t u D σ H := h
theorem go_if {c : TT} {t u : TS} {D : Ends} {σ : L2.St} {H : Hp} (h : c σ H fun b H1 => if b = true then t D σ H1 else u D σ H1) : tIfS c t u D σ H := h
theorem go_test {t : TE} {σ : L2.St} {H : Hp} {Q : Bool → Hp → Prop} (h : t σ H fun x H' => ∃ k, x = .bl k ∧ Q k H') : tTest t σ H Q := h
theorem go_ret {te : TE} {D : Ends} {σ : L2.St} {H : Hp} (h : te σ H D.rt) : tRet te D σ H := h
theorem go_cons {ta : TE} {tr : TA} {σ : L2.St} {H : Hp} {Q : List V → Hp → Prop} (h : ta σ H fun x H1 => tr σ H1 fun xs H2 => Q (x :: xs) H2) : tCons ta tr σ H Q := h
theorem go_lst {t : TA} {σ : L2.St} {H : Hp} {Q : VK} (h : t σ H fun xs H1 => xs.length ≤ sizeLine ∧ ∀ p, H1 p = none → Q (.ref p) (upd H1 p (.lst xs))) : tLst t σ H Q := h
theorem go_tup {t : TA} {σ : L2.St} {H : Hp} {Q : VK} (h : t σ H fun xs H1 => xs.length ≤ sizeLine ∧ ∀ p, H1 p = none → Q (.ref p) (upd H1 p (.tup xs))) : tTup t σ H Q := h
theorem go_asg1 {te : TE} {g : TG} {D : Ends} {σ : L2.St} {H : Hp} (h : te σ H fun x H1 => g x σ H1 D.nx) : tAsg te g D σ H := h
theorem go_next {D : Ends} {σ : L2.St} {H : Hp} (h : D.nx σ H) : tNext D σ H := h
theorem Paired.take {α β : Type} {R : α → β → Prop} : ∀ {l : List α} {m : List β} (i : Nat), Paired R l m → Paired R (l.take i) (m.take i)
  | _, _, 0, _ => .nil
  | _, _, _ + 1, .nil => .nil
  | _, _, i + 1, .cons x y => .cons x (Paired.take i y)
theorem Paired.drop {α β : Type} {R : α → β → Prop} : ∀ {l : List α} {m : List β} (i : Nat), Paired R l m → Paired R (l.drop i) (m.drop i)
  | _, _, 0, h => h
  | _, _, _ + 1, .nil => .nil
  | _, _, i + 1, .cons _ y => Paired.drop i y
theorem Paired.app {α β : Type} {R : α → β → Prop} : ∀ {l : List α} {m : List β} {l' : List α} {m' : List β}, Paired R l m → Paired R l' m' → Paired R (l ++ l') (m ++ m')
  | _, _, _, _, .nil, h => h
  | _, _, _, _, .cons x y, h => .cons x (Paired.app y h)
theorem Paired.get' {α β : Type} {R : α → β → Prop} : ∀ {l : List α} {m : List β} {i : Nat} {b : β}, Paired R l m → m[i]? = some b → ∃ a, l[i]? = some a ∧ R a b
  | _, _, _, _, .nil, h => by simp at h
  | _, _, 0, _, .cons x _, h => by cases h; exact ⟨_, rfl, x⟩
  | _, _, i + 1, _, .cons _ y, h => Paired.get' (i := i) y h
theorem drop_at {α : Type} {l : List α} {i : Nat} {n : α} (h : l[i]? = some n) : l.drop i = n :: l.drop (i + 1) := List.drop_eq_getElem?_toList_append.trans (by rw [h]; rfl)
/-- [row[0] for row in e], the heads texts -/
theorem lc_headsE {K : PySem.W.Frag} {te : TE} {σ : L2.St} {H : Hp} {r : Nat} {ts : List Addr} {ws : List Str} {Q : VK} (hp : Paired (fun t z => ∃ rest, H t = some (.tup (.str z :: rest))) ts ws) (hl : ws.length ≤ 1000) (hr : r < σ.length)
    (hte : ∀ F : VK, (∀ a H1, Same H H1 → H1 a = some (.lst (ts.map V.ref)) → F (.ref a) H1) → te σ H F) (q : ∀ (D : Addr) (H' : Hp), Same H H' → H' D = some (.lst (ws.map V.str)) → Q (.ref D) H') :
    tLc (iList K te) (gName r) tYes (tOp (rIxT K) (tVar r) (tC (.int 0))) [r] σ H Q := by
  refine hte _ fun a H1 s1 ha => ?_
  refine ⟨a, rfl, ⟨_, SqL.of ha⟩, fun D nD => lc_list (K := K) (a := a) (xs := ts.map V.ref) (fun i H' => Same H1 H' ∧ H' D = some (.lst ((ws.take i).map V.str))) ⟨same_upd nD, upd_same⟩ (fun i H' _ h' => SqL.of (h'.1 _ _ ha)) ?_ ?_⟩
  · rintro i x H' hi ⟨sm, hD⟩
    obtain ⟨t, ht, rfl⟩ := map_get hi
    obtain ⟨z, hz, rest, hrow⟩ := Paired.get hp ht
    refine ⟨?_, yes_if ?_⟩
    · show ((σ.set r none).set r (some (V.ref t))).set r none = σ.set r none
      rw [List.set_set, List.set_set]
    · have hv : ((σ.set r none).set r (some (V.ref t)))[r]? = some (some (V.ref t)) := by
        rw [List.getElem?_set_self (by rw [List.length_set]; exact hr)]
      refine ⟨_, hv, t, _, _, _, rfl, rfl, SqT.of (sm _ _ (s1 _ _ hrow)), atI_nat (j := 0) rfl, _, hD, ?_, fun b o e => ?_, ?_⟩
      · rw [List.length_map, List.length_take]
        exact small1000 (by omega)
      · rw [upd_ne (ne_of_none e nD)]
        exact sm b o e
      · rw [upd_same, take_more hz, List.map_append]
        rfl
  · rintro H' ⟨sm, hD⟩
    rw [List.length_map, Paired.len hp, List.take_length] at hD
    exact q D H' (s1.trans sm) hD
/-- [f(x) for x in e if p(x)] over a list whose entries are known -/
theorem lc_gen {K : PySem.W.Frag} {te0 te : TE} {tt : TT} {σ : L2.St} {H : Hp} {r : Nat} {α : Type} {enc out : α → V} {ws : List α} {p : α → Bool} {Q : VK} (hl : ws.length ≤ 1000)
    (hit : ∀ F : VK, (∀ a H1, Same H H1 → H1 a = some (.lst (ws.map enc)) → F (.ref a) H1) → te0 σ H F)
    (htt : ∀ z ∈ ws, ∀ (H' : Hp) (Qb : Bool → Hp → Prop), Same H H' → (∀ H'', Same H' H'' → Qb (p z) H'') → tt ((σ.set r none).set r (some (enc z))) H' Qb)
    (hte : ∀ z ∈ ws, p z = true → ∀ (H' : Hp) (Q' : VK), Same H H' → (∀ H'', Same H' H'' → Q' (out z) H'') → te ((σ.set r none).set r (some (enc z))) H' Q')
    (q : ∀ (D : Addr) (H' : Hp), H D = none → Same H H' → H' D = some (.lst ((ws.filter p).map out)) → Q (.ref D) H') :
    tLc (iList K te0) (gName r) tt te [r] σ H Q := by
  refine hit _ fun a H1 s1 ha => ?_
  refine ⟨a, rfl, ⟨_, SqL.of ha⟩, fun D nD => lc_list (K := K) (a := a) (xs := ws.map enc) (fun i H' => Same H1 H' ∧ H' D = some (.lst (((ws.take i).filter p).map out))) ⟨same_upd nD, upd_same⟩ (fun i H' _ h' => SqL.of (h'.1 _ _ ha)) ?_ ?_⟩
  · rintro i x H' hi ⟨sm, hD⟩
    rw [List.getElem?_map] at hi
    obtain ⟨z, hz, rfl⟩ := Option.map_eq_some_iff.mp hi
    have hm := List.mem_of_getElem? hz
    refine ⟨?_, htt z hm H' _ (s1.trans sm) fun H2 s2 => ?_⟩
    · show ((σ.set r none).set r (some (enc z))).set r none = σ.set r none
      rw [List.set_set, List.set_set]
    · have et : (ws.take (i + 1)).filter p = (ws.take i).filter p ++ if p z = true then [z] else [] := by
        rw [take_more hz, List.filter_append, List.filter_cons]
        rfl
      split
      · rename_i h1
        rw [if_pos h1] at et
        refine hte z hm h1 H2 _ ((s1.trans sm).trans s2) fun H3 s3 => ?_
        refine ⟨_, s3 _ _ (s2 _ _ hD), ?_, fun b o e => ?_, ?_⟩
        · rw [List.length_map]
          have := List.length_filter_le p (ws.take i)
          rw [List.length_take] at this
          exact small1000 (by omega)
        · rw [upd_ne (ne_of_none e nD)]
          exact s3 _ _ (s2 _ _ (sm b o e))
        · rw [upd_same, et, List.map_append]
          rfl
      · rename_i h1
        rw [if_neg h1, List.append_nil] at et
        exact ⟨sm.trans s2, by rw [et]; exact s2 _ _ hD⟩
  · rintro H' ⟨sm, hD⟩
    rw [List.length_map, List.take_length] at hD
    exact q D H' (s1.free nD) (s1.trans sm) hD
/-- [f(x) for x in e if p(x)] over a tuple whose entries are known -/
theorem lc_genT {K : PySem.W.Frag} {te0 te : TE} {tt : TT} {σ : L2.St} {H : Hp} {r : Nat} {α : Type} {enc out : α → V} {ws : List α} {p : α → Bool} {Q : VK} (hl : ws.length ≤ 1000)
    (hit : ∀ F : VK, (∀ a H1, Same H H1 → H1 a = some (.tup (ws.map enc)) → F (.ref a) H1) → te0 σ H F)
    (htt : ∀ z ∈ ws, ∀ (H' : Hp) (Qb : Bool → Hp → Prop), Same H H' → (∀ H'', Same H' H'' → Qb (p z) H'') → tt ((σ.set r none).set r (some (enc z))) H' Qb)
    (hte : ∀ z ∈ ws, p z = true → ∀ (H' : Hp) (Q' : VK), Same H H' → (∀ H'', Same H' H'' → Q' (out z) H'') → te ((σ.set r none).set r (some (enc z))) H' Q')
    (q : ∀ (D : Addr) (H' : Hp), H D = none → Same H H' → H' D = some (.lst ((ws.filter p).map out)) → Q (.ref D) H') :
    tLc (iTup K te0) (gName r) tt te [r] σ H Q := by
  refine hit _ fun a H1 s1 ha => ?_
  refine ⟨a, rfl, ⟨_, SqT.of ha⟩, fun D nD => lc_tup (K := K) (a := a) (xs := ws.map enc) (fun i H' => Same H1 H' ∧ H' D = some (.lst (((ws.take i).filter p).map out))) ⟨same_upd nD, upd_same⟩ (fun i H' _ h' => SqT.of (h'.1 _ _ ha)) ?_ ?_⟩
  · rintro i x H' hi ⟨sm, hD⟩
    rw [List.getElem?_map] at hi
    obtain ⟨z, hz, rfl⟩ := Option.map_eq_some_iff.mp hi
    have hm := List.mem_of_getElem? hz
    refine ⟨?_, htt z hm H' _ (s1.trans sm) fun H2 s2 => ?_⟩
    · show ((σ.set r none).set r (some (enc z))).set r none = σ.set r none
      rw [List.set_set, List.set_set]
    · have et : (ws.take (i + 1)).filter p = (ws.take i).filter p ++ if p z = true then [z] else [] := by
        rw [take_more hz, List.filter_append, List.filter_cons]
        rfl
      split
      · rename_i h1
        rw [if_pos h1] at et
        refine hte z hm h1 H2 _ ((s1.trans sm).trans s2) fun H3 s3 => ?_
        refine ⟨_, s3 _ _ (s2 _ _ hD), ?_, fun b o e => ?_, ?_⟩
        · rw [List.length_map]
          have := List.length_filter_le p (ws.take i)
          rw [List.length_take] at this
          exact small1000 (by omega)
        · rw [upd_ne (ne_of_none e nD)]
          exact s3 _ _ (s2 _ _ (sm b o e))
        · rw [upd_same, et, List.map_append]
          rfl
      · rename_i h1
        rw [if_neg h1, List.append_nil] at et
        exact ⟨sm.trans s2, by rw [et]; exact s2 _ _ hD⟩
  · rintro H' ⟨sm, hD⟩
    rw [List.length_map, List.take_length] at hD
    exact q D H' (s1.free nD) (s1.trans sm) hD
/-- [f(k) for k in range(n) if p(k)] -/
theorem lc_genR {ta : TA} {te : TE} {tt : TT} {σ : L2.St} {H : Hp} {r n : Nat} {out : Nat → V} {p : Nat → Bool} {Q : VK} (hl : n ≤ 1000)
    (hit : ∀ F : List V → Hp → Prop, (∀ H1, Same H H1 → F [.int n] H1) → ta σ H F)
    (htt : ∀ z, z < n → ∀ (H' : Hp) (Qb : Bool → Hp → Prop), Same H H' → (∀ H'', Same H' H'' → Qb (p z) H'') → tt ((σ.set r none).set r (some (.int z))) H' Qb)
    (hte : ∀ z, z < n → p z = true → ∀ (H' : Hp) (Q' : VK), Same H H' → (∀ H'', Same H' H'' → Q' (out z) H'') → te ((σ.set r none).set r (some (.int z))) H' Q')
    (q : ∀ (D : Addr) (H' : Hp), H D = none → Same H H' → H' D = some (.lst (((List.range n).filter p).map out)) → Q (.ref D) H') :
    tLc (iRng1 ta) (gName r) tt te [r] σ H Q := by
  refine hit _ fun H1 s1 => ?_
  refine ⟨_, rfl, by omega, by omega, fun D nD => lc_range (lo := 0) (n := n) (fun i H' => Same H1 H' ∧ H' D = some (.lst (((List.range i).filter p).map out))) ⟨same_upd nD, upd_same⟩ ?_ ?_⟩
  · rintro i H' hi ⟨sm, hD⟩
    have hi : i < n := hi
    rw [Int.zero_add]
    refine ⟨?_, htt i hi H' _ (s1.trans sm) fun H2 s2 => ?_⟩
    · show ((σ.set r none).set r (some (.int i))).set r none = σ.set r none
      rw [List.set_set, List.set_set]
    · have et : (List.range (i + 1)).filter p = (List.range i).filter p ++ if p i = true then [i] else [] := by
        rw [List.range_succ, List.filter_append, List.filter_cons]
        rfl
      split
      · rename_i h1
        rw [if_pos h1] at et
        refine hte i hi h1 H2 _ ((s1.trans sm).trans s2) fun H3 s3 => ?_
        refine ⟨_, s3 _ _ (s2 _ _ hD), ?_, fun b o e => ?_, ?_⟩
        · rw [List.length_map]
          have := List.length_filter_le p (List.range i)
          rw [List.length_range] at this
          exact small1000 (by omega)
        · rw [upd_ne (ne_of_none e nD)]
          exact s3 _ _ (s2 _ _ (sm b o e))
        · rw [upd_same, et, List.map_append]
          rfl
      · rename_i h1
        rw [if_neg h1, List.append_nil] at et
        exact ⟨sm.trans s2, by rw [et]; exact s2 _ _ hD⟩
  · rintro H' ⟨sm, hD⟩
    exact q D H' (s1.free nD) (s1.trans sm) hD
/-! kinds of errors -/
inductive PKind where
  | tooMany | badWord | double | badNumber | empty | unknown
  deriving DecidableEq
def kcls (cs : ECs) : PKind → Addr
  | .tooMany => cs.tooMany
  | .badWord => cs.badWord
  | .double => cs.double
  | .badNumber => cs.badNumber
  | .empty => cs.empty
  | .unknown => cs.unknown
structure ErrKinds (K : PySem.W.Frag) (cs : ECs) (CH : Addr) : Prop where
  held : ∀ i, PySem.W.kitOne K (.ref (kcls cs i)) (.ref CH) = some true
  other : ∀ i j, i ≠ j → PySem.W.exmOne K (.ref (kcls cs i)) (.ref (kcls cs j)) = some false
/-! rows move to other lists -/
theorem SRowIn.keep {H H' : Hp} {a t : Addr} {r : SRow} (h : SRowIn H a t r) (e : Same H H') : SRowIn H' a t r := by
  obtain ⟨b, c, x, y, z, u⟩ := h
  exact ⟨b, c, e _ _ x, e _ _ y, e _ _ z, u⟩
theorem SRowIn.move {H H' : Hp} {a p t : Addr} {r : SRow} (h : SRowIn H a t r) (e : Same H H') (n : H p = none) : SRowIn H' p t r := by
  obtain ⟨b, c, x, y, z, u⟩ := h
  exact ⟨b, c, e _ _ x, e _ _ y, e _ _ z, ne_of_none y n, ne_of_none z n⟩
theorem Paired.same {H H' : Hp} {ts : List Addr} {prs : List (Str × Int)} (h : Paired (fun t (r : Str × Int) => H t = some (.tup [.str r.1, .int r.2])) ts prs) (e : Same H H') : Paired (fun t (r : Str × Int) => H' t = some (.tup [.str r.1, .int r.2])) ts prs := Paired.imp2 (fun _ _ h => e _ _ h) h
/-- good rows: a plan of them is built -/
structure GoodRows (prs : List (Str × Int)) (srs : List SRow) : Prop where
  pw : ∀ r ∈ prs, Wd r.1 ∧ 0 ≤ r.2 ∧ r.2 ≤ 2
  pn : (prs.map (·.1)).Nodup
  sw : ∀ r ∈ srs, Wd r.1 ∧ r.2.1 ≠ [] ∧ r.2.1.Nodup ∧ (∀ y ∈ r.2.1, y ∈ prs.map (·.1)) ∧ r.2.2.Nodup ∧ (∀ y ∈ r.2.2, y ∈ prs.map (·.1))
  sn : (srs.map (·.1)).Nodup
  p1 : 1 ≤ prs.length
  p7 : prs.length ≤ 7
  s1 : 1 ≤ srs.length
  s13 : srs.length ≤ 13
theorem nodup_snoc {α : Type} {l : List α} {a : α} (h : l.Nodup) (n : a ∉ l) : (l ++ [a]).Nodup := by
  rw [List.nodup_append]
  exact ⟨h, by simp, fun x hx y hy e => by rw [List.mem_singleton.mp hy] at e; rw [e] at hx; exact n hx⟩
theorem placesDue_none : ∀ {prs : List (Str × Int)} {seen : List Str}, (∀ r ∈ prs, Wd r.1 ∧ 0 ≤ r.2 ∧ r.2 ≤ 99) → (seen ++ prs.map (·.1)).Nodup → placesDue seen prs = none
  | [], _, _, _ => rfl
  | (w, n) :: r, seen, h, hn => by
    obtain ⟨h1, h2⟩ := h _ (List.mem_cons_self ..)
    have hn2 : ((seen ++ [w]) ++ r.map (·.1)).Nodup := by
      rw [List.append_assoc]
      exact hn
    have hw : w ∉ seen := fun q => by
      rw [List.nodup_append] at hn
      exact hn.2.2 w q w (List.mem_cons_self ..) rfl
    have h1 : wd w.cps.toList = true := h1
    have h2 : 0 ≤ n ∧ n ≤ 99 := h2
    rw [placesDue_cons, if_pos h1, if_neg hw, if_pos h2]
    exact placesDue_none (fun r hr => h r (List.mem_cons_of_mem _ hr)) hn2
theorem stepsDue_none {places : List Str} : ∀ {srs : List SRow} {seen : List Str}, (∀ r ∈ srs, Wd r.1 ∧ r.2.1 ≠ [] ∧ r.2.1.Nodup ∧ (∀ y ∈ r.2.1, y ∈ places) ∧ r.2.2.Nodup ∧ (∀ y ∈ r.2.2, y ∈ places)) → (seen ++ srs.map (·.1)).Nodup → stepsDue places seen srs = none
  | [], _, _, _ => rfl
  | s :: r, seen, h, hn => by
    obtain ⟨h1, h2, h3, h4, h5, h6⟩ := h _ (List.mem_cons_self ..)
    have hn2 : ((seen ++ [s.1]) ++ r.map (·.1)).Nodup := by
      rw [List.append_assoc]
      exact hn
    have hw : s.1 ∉ seen := fun q => by
      rw [List.nodup_append] at hn
      exact hn.2.2 s.1 q s.1 (List.mem_cons_self ..) rfl
    have e1 : chk places [] s.2.1 = none := chk_none.mpr ⟨h3, fun w hw => ⟨h4 w hw, by simp⟩⟩
    have e2 : chk places [] s.2.2 = none := chk_none.mpr ⟨h5, fun w hw => ⟨h6 w hw, by simp⟩⟩
    have e : stepDue places seen s = none := by
      unfold stepDue
      have h1 : wd s.1.cps.toList = true := h1
      rw [if_pos h1, if_neg hw, if_neg h2, e1, e2]
      rfl
    rw [stepsDue_cons, e]
    exact stepsDue_none (fun r hr => h r (List.mem_cons_of_mem _ hr)) hn2
theorem planDue_none {prs : List (Str × Int)} {srs : List SRow} (hp : ∀ r ∈ prs, Wd r.1 ∧ 0 ≤ r.2 ∧ r.2 ≤ 99) (hn : (prs.map (·.1)).Nodup)
    (hs : ∀ r ∈ srs, Wd r.1 ∧ r.2.1 ≠ [] ∧ r.2.1.Nodup ∧ (∀ y ∈ r.2.1, y ∈ prs.map (·.1)) ∧ r.2.2.Nodup ∧ (∀ y ∈ r.2.2, y ∈ prs.map (·.1))) (hm : (srs.map (·.1)).Nodup) (l1 : prs.length ≤ 12) (l2 : srs.length ≤ 16) : planDue prs srs = none := by
  unfold planDue
  rw [if_neg (by omega), if_neg (by omega), placesDue_none hp (by simpa using hn)]
  exact stepsDue_none hs (by simpa using hm)
theorem GoodRows.due {prs : List (Str × Int)} {srs : List SRow} (h : GoodRows prs srs) : planDue prs srs = none :=
  planDue_none (fun r hr => by have := h.pw r hr; exact ⟨this.1, this.2.1, by omega⟩) h.pn h.sw h.sn (by have := h.p7; omega) (by have := h.s13; omega)
end L2

set_option Elab.async false
set_option linter.all false
set_option maxRecDepth 100000
set_option maxHeartbeats 4000000
/-! Dicts with tuples as keys: setdefault, a walk over the values. -/
namespace L2
open PySem PySem.Spec PyProof.Rows PySem.HErr
section
variable {X : Cx}
theorem putK_add {κ : Type} [DecidableEq κ] {kvs : List (κ × V)} {k : κ} {v : V} (h : valV kvs k = none) : putK kvs k v = kvs ++ [(k, v)] := by
  unfold putK
  rw [if_neg]
  rw [valV_any, h]
  exact Bool.false_ne_true
/-- d.setdefault(k, x) -/
def rSetDefT : V → List V → Hp → VK → Prop := fun x xs H Q => ∃ (a : Addr) (kvs : List (List L2.Key × V)) (k : List L2.Key) (b : Addr) (d : V), x = .ref a ∧ xs = [.ref b, d] ∧ H a = some (.dT kvs) ∧ H b = some (.tup (k.map kV)) ∧ kvs.length < sizeLine ∧
  (∀ v, valV kvs k = some v → Q v H) ∧ (valV kvs k = none → Q d (upd H a (.dT (kvs ++ [(k, d)]))))
theorem mt_setdefT (hu : X.A.units + 1 < cLine) : MtR X "dict.setdefault" rSetDefT := by
  intro pins s σ H x xs v us Q I rx rxs h
  obtain ⟨a, kvs, k, b, d, rfl, rfl, ha, hb, hlt, q1, q2⟩ := h
  cases rx
  obtain ⟨u1, u2, rfl, r1, r2⟩ := vals2 rxs
  cases r1
  obtain ⟨z, hd, xs', rel, dd⟩ := dt_of I.hok ha
  have hz : xs'.length ≤ sizeLine := by rw [← Paired.length rel]; exact z
  refine call_meetsIn PySem.F.slot_dict_setdefault dd.typeIs PySem.F.entry_dict_setdefault (PySem.F.args_dict_setdefault_3 _ _ _) (meetsH_dict_setdefault (tupleKind (mixKind X.prog X.w)) a b hd u2)
    ⟨tupleKind_room_in1 hu, k, xs', key_of I.hok hb, dd, hz, fun p hp => ?_, fun hn h' dd' hs => ?_⟩
  · have r := rel.val k
    rw [hp] at r
    obtain ⟨v0, ev, rv⟩ : ∃ v0, valV kvs k = some v0 ∧ RelV v0 p.2 := by
      cases ev : valV kvs k with
      | none =>
        rw [ev] at r
        exact (show False from r).elim
      | some v0 =>
        rw [ev] at r
        exact ⟨v0, rfl, r⟩
    show EP X pins σ Q p.2 _
    exact ⟨v0, H, I.tok _, rv, q1 v0 ev⟩
  · have r := rel.val k
    rw [hn] at r
    have e : valV kvs k = none := by
      cases ev : valV kvs k with
      | none => rfl
      | some v0 =>
        rw [ev] at r
        exact (show False from r).elim
    have q := q2 e
    rw [← putK_add e] at q
    obtain ⟨o, es, ep, hq, h2, h3, h4, _, h5⟩ := dd'
    have I2 : Inv X pins σ (upd H a (.dT (putK kvs k d))) { s with heap := h', toks := s.toks + (tupleKind (mixKind X.prog X.w)).draws k } :=
      d_write I (by rw [ha]; exact True.intro) hs ⟨o, hq⟩ ⟨by rw [putK_add e, List.length_append]; exact hlt, hd, _, (rel.put k hb r2).keeps (fun c ys ec => (by rw [upd_ne (ne_of ec ha (fun z => nomatch z))]; exact ec)), o, es, ep, hq, h2, h3, h4, h5⟩
    show EP X pins σ Q u2 _
    exact ⟨d, _, I2, r2, q⟩
end
/-- the values of a locked dict with tuples as keys -/
def Itdt (d : Addr) (o : Obj) (kvs : List (List Key × V)) : It :=
  ⟨fun i H => H d = some (.frz o (.dT kvs)) ∧ i < kvs.length, fun i H x H' => H' = H ∧ ∃ k, kvs[i]? = some (k, x), fun i H => H d = some (.frz o (.dT kvs)) ∧ kvs.length ≤ i⟩
theorem Inv.frzTv {X : Cx} {pins : List (Addr × Obj)} {σ : St} {H : Hp} {s : Shared} {d : Addr} {o : Obj} {kvs : List (List Key × V)} (I : Inv X pins σ H s) (h : H d = some (.frz o (.dT kvs))) :
    (d == sysModules) = false ∧ s.heap.get? d = some o ∧ o.ExactDict ∧ ∃ (es : Array DictEntry) (ep : Nat), o.data = .dict es ep ∧ es.size = kvs.length ∧
      ∀ (i : Nat) (k : List Key) (v : V), kvs[i]? = some (k, v) → ∃ en : DictEntry, es[i]? = some en ∧ RelV v en.val := by
  obtain ⟨hd, z, hs, xs, pr, o', es, ep, ho, hx, hdt, he, _⟩ := I.hok d _ h
  rw [hd] at ho
  cases ho
  refine ⟨hs, hd, hx, es, ep, hdt, ?_, fun i k v e => ?_⟩
  · have l1 : es.size = xs.length := size_of_entries he
    have l2 : kvs.length = xs.length := Paired.length pr
    omega
  · obtain ⟨b, hb, e1, e2, e3⟩ := paired_get pr e
    have q := entry_at he i
    rw [hb] at q
    exact ⟨_, q, e3⟩
theorem turn_valsT {P : Program} {w : World} {K : PySem.W.Frag} {tg : Expr} {d : Addr} {o : Obj} {es : Array DictEntry} {ep : Nat} {kvs : List (List Key × V)} (it : Addr) (hod : o.data = .dict es ep) :
    Turn P w K tg (Itdt d o kvs) [it] it (fun i h => h.IsValIter it d i kvs.length ep) where
  mem := by simp
  obj := fun i h st b hb => by
    have e : b = it := by simpa using hb
    subst e
    obtain ⟨oi, e, c, dd⟩ := st
    exact ⟨oi, e, fun v z => by rw [dd] at z; cases z⟩
  keep := fun i h h' st k => st.at fun oi e => k it (by simp) oi e
  item := by
    intro X hP hw hK hc i pins s σ H E I hf st hg
    subst hP hw hK
    obtain ⟨hd, hi⟩ := hg
    obtain ⟨f0, f1, f2, f3, f4, f5⟩ := hf it (by simp)
    obtain ⟨hs, hgd, hx, es', ep', hdt, hsz, ent⟩ := I.frzTv hd
    obtain ⟨rfl, rfl⟩ := dict_ep hod hdt
    obtain ⟨⟨k, v⟩, hkv⟩ : ∃ p, kvs[i]? = some p := ⟨kvs[i], List.getElem?_eq_getElem hi⟩
    obtain ⟨en, hen, rv⟩ := ent i k v hkv
    rw [← hsz] at st
    have hie : i < es'.size := by omega
    have een : es'[i] = en := by
      rw [Array.getElem?_eq_getElem hie] at hen
      exact Option.some.inj hen
    refine wpAny_pyNext_values_item_raw st ⟨o, hgd, hx, hdt⟩ hie fun h' st' sb => ?_
    have I1 : Inv X pins σ H { s with heap := h' } := I.turned (t' := s.toks) (fun b ob hb e => (sb.2 b hb).trans e) f0 f1 f3 f4 f5
    obtain ⟨oi, e, c, dd⟩ := id st'
    rw [een]
    refine ⟨en.val, rfl, go_of (s := { s with heap := h' }) e c dd (by decide) ⟨v, H, I1, rv, ⟨rfl, k, hkv⟩, ?_, fun b hb => (hf b hb).1⟩⟩
    show h'.IsValIter it d (i + 1) kvs.length _
    rw [← hsz]
    exact st'
  done := by
    intro X hP hw hK hc i pins s σ H E I hf st hg
    subst hP hw hK
    obtain ⟨hd, hi⟩ := hg
    obtain ⟨f0, f1, f2, f3, f4, f5⟩ := hf it (by simp)
    obtain ⟨hs, hgd, hx, es', ep', hdt, hsz, ent⟩ := I.frzTv hd
    obtain ⟨rfl, rfl⟩ := dict_ep hod hdt
    rw [← hsz] at st
    exact wpAny_pyNext_values_end_raw (I.ok.hd hc) st ⟨o, hgd, hx, hdt⟩ (by omega) fun h' eb => ⟨rfl, I.turned (t' := s.toks) (fun b ob hb e => eb b ob hb e) f0 f1 f3 f4 f5⟩
  self := fun A i s Q E st h => wpAny_pyIter_valiter st h
def iValsT (td : TE) : TI := fun σ H R => td σ H fun x H1 => ∃ d o kvs, x = .ref d ∧ H1 d = some (.frz o (.dT kvs)) ∧ R (Itdt d o kvs) H1
theorem pi_valuesT {X : Cx} {tg e : Expr} {td : TE} {apos cpos : Pos} (he : PE X e td) (hbase : attributeBase e "values" X.env (eval e X.env) = eval e X.env := by rfl) (hline : (apos.endLine == cpos.line) = true := by rfl) : PI X tg (.Call (.Attribute e "values" apos) [] [] cpos) (iValsT td) := by
  refine ⟨fun pins s σ H R I h => ?_⟩
  refine wpAny_Call_method (T := "dict") (id := "dict.values") hbase rfl hline F.plainAttrs_dict F.slot_dict_values F.type_dict_values (thn (he.run pins s σ H _ I h) fun u s1 ⟨x, H1, I1, rx, d, o, kvs, ex, hd, q⟩ => ?_)
  subst ex
  obtain rfl : u = Value.ref d := rx
  obtain ⟨hs, hgd, hx, es, ep, hdt, hsz, ent⟩ := I1.frzTv hd
  have raw : s1.heap.DictRaw d es ep := ⟨o, hgd, hx, hdt⟩
  refine ⟨raw.typeIs, ?_, ?_⟩
  · intro b e
    cases e
    exact ⟨o, hgd, hx.2.1⟩
  have I2 : Inv X pins σ H1 { s1 with heap := s1.heap.push { cls := .type "dict_values", data := .fields #[.ref d] } } := I1.kept (t' := s1.toks) fun b ob q => Heap.get?_push_of_some _ q
  have fin : wpAny (model X.prog X.w) X.A (pyIter (.ref s1.heap.objs.size)) (PIE X pins σ tg R) X.xe { s1 with heap := s1.heap.push { cls := .type "dict_values", data := .fields #[.ref d] } } := by
    refine wpAny_pyIter_values_raw (d := d) ⟨_, Heap.get?_push_size _ rfl, rfl, rfl⟩ (raw.at fun ob e => Heap.get?_push_of_some _ e) (pi_one (tk := s1.toks) I2 _ (turn_valsT _ hdt) ⟨_, Heap.get?_push_size _ rfl, rfl, ?_⟩ q)
    rw [hsz] <;> rfl
  show wpAny _ _ (callWith cpos (.builtin "dict.values") [.ref d] [] []) _ X.xe s1
  exact method_meetsIn F.slot_dict_values F.entry_dict_values rfl (PySem.evalArgs_none ⟨rfl, raw.typeIs, F.args_dict_values_1 _, _, meets_dict_values_raw d hs, ⟨es, ep, raw⟩, fin⟩)
theorem walk_valuesT {d : Addr} {o : Obj} {kvs : List (List Key × V)} : Walk (Itdt d o kvs) kvs.length (fun H => H d = some (.frz o (.dT kvs))) (fun i H x H' => H' = H ∧ ∃ k, kvs[i]? = some (k, x)) :=
  ⟨fun _ _ hi q => ⟨q, hi⟩, fun _ q => ⟨q, Nat.le_refl _⟩, fun _ _ _ _ _ _ y => y⟩
end L2

set_option Elab.async false
set_option linter.all false
set_option maxRecDepth 100000
set_option maxHeartbeats 4000000
/-! The ground: F, what stands and never changes; cells, what is one's own and may change. Defs are walked by what their names hold; no heap is seen. -/
namespace L2
open PySem PySem.Spec PyProof.Rows PySem.HErr
/-- what a value is, in the frozen heap -/
structure Vp where
  p : Hp → V → Prop
  mono : ∀ {F F' : Hp} {v : V}, Same F F' → p F v → p F' v
/-- how a thing of Lean stands for a value -/
structure Rep (α : Type) where
  p : Hp → V → α → Prop
  mono : ∀ {F F' : Hp} {v : V} {x : α}, Same F F' → p F v x → p F' v x
def iz {α : Type} (r : Rep α) (x : α) : Vp := ⟨fun F v => r.p F v x, fun e h => r.mono e h⟩
def zAt (a : Addr) : Vp := ⟨fun _ v => v = .ref a, fun _ h => h⟩
def zNon : Vp := ⟨fun _ v => v = .non, fun _ h => h⟩
def zI : Rep Int := ⟨fun _ v x => v = .int x, fun _ h => h⟩
def zB : Rep Bool := ⟨fun _ v x => v = .bl x, fun _ h => h⟩
def zS : Rep Str := ⟨fun _ v x => v = .str x ∧ Asc x, fun _ h => h⟩
abbrev PVs {α : Type} (r : Rep α) (F : Hp) (vs : List V) (xs : List α) : Prop := Paired (fun v x => r.p F v x) vs xs
def zL {α : Type} (r : Rep α) : Rep (List α) := ⟨fun F v xs => ∃ a vs, v = .ref a ∧ F a = some (.lst vs) ∧ PVs r F vs xs, fun e ⟨a, vs, h1, h2, h3⟩ => ⟨a, vs, h1, e _ _ h2, Paired.imp2 (fun _ _ h => r.mono e h) h3⟩⟩
def zT {α : Type} (r : Rep α) : Rep (List α) := ⟨fun F v xs => ∃ a vs, v = .ref a ∧ F a = some (.tup vs) ∧ PVs r F vs xs, fun e ⟨a, vs, h1, h2, h3⟩ => ⟨a, vs, h1, e _ _ h2, Paired.imp2 (fun _ _ h => r.mono e h) h3⟩⟩
def z2 {α β : Type} (r : Rep α) (s : Rep β) : Rep (α × β) := ⟨fun F v x => ∃ a u w, v = .ref a ∧ F a = some (.tup [u, w]) ∧ r.p F u x.1 ∧ s.p F w x.2, fun e ⟨a, u, w, h1, h2, h3, h4⟩ => ⟨a, u, w, h1, e _ _ h2, r.mono e h3, s.mono e h4⟩⟩
def z3 {α β γ : Type} (r : Rep α) (s : Rep β) (t : Rep γ) : Rep (α × β × γ) := ⟨fun F v x => ∃ a u w z, v = .ref a ∧ F a = some (.tup [u, w, z]) ∧ r.p F u x.1 ∧ s.p F w x.2.1 ∧ t.p F z x.2.2, fun e ⟨a, u, w, z, h1, h2, h3, h4, h5⟩ => ⟨a, u, w, z, h1, e _ _ h2, r.mono e h3, s.mono e h4, t.mono e h5⟩⟩
/-- None or a thing -/
def zO {α : Type} (r : Rep α) : Rep (Option α) := ⟨fun F v x => match x with | none => v = .non | some y => r.p F v y, fun {F F' v x} e h => by
  cases x with
  | none => exact h
  | some y => exact r.mono e h⟩
/-! ### cells -/
structure Cel where
  a : Addr
  own : Bool
  φ : Hp → HO → Prop
  mono : ∀ {F F' : Hp} {o : HO}, Same F F' → φ F o → φ F' o
  nt : ∀ {F : Hp} {o : HO} {vs : List V}, φ F o → o = .tup vs → False
/-- what F' may know beyond F: what is new, and tuples -/
def Nwr (F H : Hp) (a : Addr) (o : HO) : Prop := (∃ o', F a = some o') ∨ H a = none ∨ ∃ vs, o = .tup vs
def cL {α : Type} (a : Addr) (r : Rep α) (xs : List α) : Cel := ⟨a, true, fun F o => ∃ vs, o = .lst vs ∧ PVs r F vs xs, fun e ⟨vs, h1, h2⟩ => ⟨vs, h1, Paired.imp2 (fun _ _ h => r.mono e h) h2⟩, fun h e => by subst e; simp at h⟩
/-- the law's box at b, its script at l -/
def cBox (own : Bool) (b l : Addr) : Cel := ⟨b, own, fun F o => ∃ (ns : List Int) (i c r : Int), o = .lst [.int i, .int c, .int r, .ref l] ∧ F l = some (.lst (ns.map V.int)) ∧ 0 ≤ i, fun e ⟨ns, i, c, r, h1, h2, h3⟩ => ⟨ns, i, c, r, h1, e _ _ h2, h3⟩, fun h e => by subst e; simp at h⟩
/-- what stood at the beginning: F0 frozen, H0 all, B lent -/
structure Fr where
  F0 : Hp
  H0 : Hp
  B : List Addr
structure OkF (fr : Fr) (Θ : List Cel) (F H : Hp) : Prop where
  fh : Same F H
  f0 : Same fr.F0 F
  nw : ∀ a o, F a = some o → Nwr fr.F0 fr.H0 a o
  h0 : ∀ a o, a ∉ fr.B → fr.H0 a = some o → H a = some o
  al : ∀ a o, fr.H0 a = some o → ∃ o', H a = some o'
  nd : (Θ.map Cel.a).Nodup
  ce : ∀ c ∈ Θ, F c.a = none ∧ (∃ o, H c.a = some o ∧ c.φ F o) ∧ (if c.own = true then fr.H0 c.a = none else c.a ∈ fr.B)
section
variable {fr : Fr} {Θ : List Cel} {F F' H H' : Hp}
theorem OkF.h0n (k : OkF fr Θ F H) {p : Addr} (n : H p = none) : fr.H0 p = none := by
  cases q : fr.H0 p with
  | none => rfl
  | some o =>
    obtain ⟨o', h⟩ := k.al p o q
    rw [n] at h
    cases h
theorem OkF.new {p : Addr} {o : HO} (k : OkF fr Θ F H) (n : H p = none) : OkF fr Θ (upd F p o) (upd H p o) := by
  have nF : F p = none := k.fh.free n
  refine ⟨fun a u h => ?_, k.f0.trans (same_upd nF), fun a u h => ?_, fun a u hB h => ?_, fun a u h => ?_, k.nd, fun c hc => ?_⟩
  · by_cases e : a = p
    · subst e
      rw [upd_same] at h ⊢
      exact h
    · rw [upd_ne e] at h ⊢
      exact k.fh a u h
  · by_cases e : a = p
    · subst e
      exact .inr (.inl (k.h0n n))
    · rw [upd_ne e] at h
      exact k.nw a u h
  · have := k.h0 a u hB h
    rw [upd_ne (ne_of_none this n)]
    exact this
  · obtain ⟨o', h'⟩ := k.al a u h
    exact ⟨o', by rw [upd_ne (ne_of_none h' n)]; exact h'⟩
  · obtain ⟨h1, ⟨u, h2, h3⟩, h4⟩ := k.ce c hc
    have ne := ne_of_none h2 n
    exact ⟨by rw [upd_ne ne]; exact h1, ⟨u, by rw [upd_ne ne]; exact h2, c.mono (same_upd nF) h3⟩, h4⟩
theorem OkF.sameF {p : Addr} {o : HO} (k : OkF fr Θ F H) (n : H p = none) : Same F (upd F p o) := same_upd (k.fh.free n)
theorem OkF.mkOwn {c : Cel} {o : HO} (k : OkF fr Θ F H) (n : H c.a = none) (ho : c.own = true) (h : c.φ F o) : OkF fr (c :: Θ) F (upd H c.a o) := by
  refine ⟨k.fh.trans (same_upd n), k.f0, k.nw, fun a u hB h => ?_, fun a u h => ?_, ?_, fun d hd => ?_⟩
  · have := k.h0 a u hB h
    rw [upd_ne (ne_of_none this n)]
    exact this
  · obtain ⟨o', h'⟩ := k.al a u h
    exact ⟨o', by rw [upd_ne (ne_of_none h' n)]; exact h'⟩
  · rw [List.map_cons, List.nodup_cons]
    refine ⟨fun hm => ?_, k.nd⟩
    obtain ⟨d, hd, e⟩ := List.mem_map.mp hm
    obtain ⟨_, ⟨u, h2, _⟩, _⟩ := k.ce d hd
    rw [e, n] at h2
    cases h2
  · rcases List.mem_cons.mp hd with rfl | hd
    · exact ⟨k.fh.free n, ⟨o, upd_same, h⟩, by rw [if_pos ho]; exact k.h0n n⟩
    · obtain ⟨h1, ⟨u, h2, h3⟩, h4⟩ := k.ce d hd
      exact ⟨h1, ⟨u, by rw [upd_ne (ne_of_none h2 n)]; exact h2, h3⟩, h4⟩
theorem nodup_at {l : List Cel} (h : (l.map Cel.a).Nodup) {i : Nat} {c d : Cel} (hi : l[i]? = some c) {j : Nat} (hj : l[j]? = some d) (e : d.a = c.a) : i = j := by
  have hi' : (l.map Cel.a)[i]? = some c.a := by rw [List.getElem?_map, hi]; rfl
  have hj' : (l.map Cel.a)[j]? = some c.a := by rw [List.getElem?_map, hj, ← e]; rfl
  exact (List.getElem?_inj (List.getElem?_eq_some_iff.mp hi').1 h).mp (hi'.trans hj'.symm)
/-- a cell's content changes -/
theorem OkF.mut {i : Nat} {c c' : Cel} {o : HO} (k : OkF fr Θ F H) (hi : Θ[i]? = some c) (ha : c'.a = c.a) (ho : c'.own = c.own) (h : c'.φ F o) : OkF fr (Θ.set i c') F (upd H c.a o) := by
  have hm := List.mem_of_getElem? hi
  obtain ⟨h1, ⟨u0, h2, h3⟩, h4⟩ := k.ce c hm
  refine ⟨fun a u h => ?_, k.f0, k.nw, fun a u hB h => ?_, fun a u h => ?_, ?_, fun d hd => ?_⟩
  · have ne : a ≠ c.a := fun e => by rw [e, h1] at h; cases h
    rw [upd_ne ne]
    exact k.fh a u h
  · have ne : a ≠ c.a := fun e => by
      cases q : c.own with
      | true =>
        rw [if_pos q] at h4
        rw [e, h4] at h
        cases h
      | false =>
        rw [if_neg (by rw [q]; exact Bool.false_ne_true)] at h4
        rw [e] at hB
        exact hB h4
    rw [upd_ne ne]
    exact k.h0 a u hB h
  · by_cases e : a = c.a
    · exact ⟨o, by rw [e]; exact upd_same⟩
    · rw [upd_ne e]
      exact k.al a u h
  · have : (Θ.set i c').map Cel.a = Θ.map Cel.a := by
      rw [List.map_set, ha]
      apply List.ext_getElem?
      intro j
      rw [List.getElem?_set]
      split
      · rename_i e
        subst e
        rw [List.getElem?_map, hi]
        have hlt : i < (Θ.map Cel.a).length := by
          rw [List.length_map]
          exact (List.getElem?_eq_some_iff.mp hi).1
        rw [if_pos hlt]
        rfl
      · rfl
    rw [this]
    exact k.nd
  · obtain ⟨j, hj⟩ := List.getElem?_of_mem hd
    rw [List.getElem?_set] at hj
    split at hj
    · rename_i e
      split at hj
      · cases hj
        rw [ha, ho]
        exact ⟨h1, ⟨o, upd_same, h⟩, h4⟩
      · cases hj
    · rename_i e
      have hd' := List.mem_of_getElem? hj
      obtain ⟨g1, ⟨u, g2, g3⟩, g4⟩ := k.ce d hd'
      have ne : d.a ≠ c.a := fun q => e (nodup_at k.nd hi hj q)
      exact ⟨g1, ⟨u, by rw [upd_ne ne]; exact g2, g3⟩, g4⟩
/-- a cell of one's own is frozen -/
theorem OkF.frz {i : Nat} {c : Cel} {o : HO} (k : OkF fr Θ F H) (hi : Θ[i]? = some c) (ho : c.own = true) (h : H c.a = some o) : OkF fr (Θ.eraseIdx i) (upd F c.a o) H := by
  have hm := List.mem_of_getElem? hi
  obtain ⟨h1, _, h4⟩ := k.ce c hm
  rw [if_pos ho] at h4
  have hlt := (List.getElem?_eq_some_iff.mp hi).1
  refine ⟨fun a u e => ?_, k.f0.trans (same_upd h1), fun a u e => ?_, k.h0, k.al, ?_, fun d hd => ?_⟩
  · by_cases q : a = c.a
    · rw [q, upd_same] at e
      rw [q, h, e]
    · rw [upd_ne q] at e
      exact k.fh a u e
  · by_cases q : a = c.a
    · rw [q]
      exact .inr (.inl h4)
    · rw [upd_ne q] at e
      exact k.nw a u e
  · exact (List.Sublist.map Cel.a (List.eraseIdx_sublist Θ i)).nodup k.nd
  · obtain ⟨j, hj⟩ := List.getElem?_of_mem hd
    rw [List.getElem?_eraseIdx] at hj
    have key : ∀ j', j' ≠ i → Θ[j']? = some d → (upd F c.a o) d.a = none ∧ (∃ u, H d.a = some u ∧ d.φ (upd F c.a o) u) ∧ (if d.own = true then fr.H0 d.a = none else d.a ∈ fr.B) := fun j' hne hj' => by
      obtain ⟨g1, ⟨u, g2, g3⟩, g4⟩ := k.ce d (List.mem_of_getElem? hj')
      have ne : d.a ≠ c.a := fun q => hne (nodup_at k.nd hi hj' q).symm
      exact ⟨by rw [upd_ne ne]; exact g1, ⟨u, g2, d.mono (same_upd h1) g3⟩, g4⟩
    split at hj
    · exact key j (by omega) hj
    · exact key (j + 1) (by omega) hj
theorem OkF.nwr {a : Addr} {o : HO} (k : OkF fr Θ F H) (ff : Same F F') (h : F' a = some o) (n : Nwr F H a o) : Nwr fr.F0 fr.H0 a o := by
  rcases n with ⟨o', h'⟩ | h' | h'
  · have e := ff a o' h'
    rw [h] at e
    cases e
    exact k.nw a o h'
  · exact .inr (.inl (k.h0n h'))
  · exact .inr (.inr h')
/-- after a call that lets all stand -/
theorem OkF.grow (k : OkF fr Θ F H) (hh : Same H H') (ff : Same F F') (fh : Same F' H') (nw : ∀ a o, F' a = some o → Nwr F H a o) : OkF fr Θ F' H' := by
  refine ⟨fh, k.f0.trans ff, fun a o h => ?_, fun a o hB h => hh _ _ (k.h0 a o hB h), fun a o h => ?_, k.nd, fun c hc => ?_⟩
  · exact k.nwr ff h (nw a o h)
  · obtain ⟨o', h'⟩ := k.al a o h
    exact ⟨o', hh _ _ h'⟩
  · obtain ⟨h1, ⟨u, h2, h3⟩, h4⟩ := k.ce c hc
    refine ⟨?_, ⟨u, hh _ _ h2, c.mono ff h3⟩, h4⟩
    cases q : F' c.a with
    | none => rfl
    | some o =>
      rcases nw _ _ q with ⟨o', h'⟩ | h' | ⟨vs, ht⟩
      · rw [h1] at h'
        cases h'
      · rw [h2] at h'
        cases h'
      · have e1 := fh _ _ q
        rw [hh _ _ h2] at e1
        exact (c.nt h3 ((Option.some.inj e1).trans ht)).elim
/-- at the start of a def: all that stands is frozen -/
theorem OkF.start (fh : Same F H) : OkF ⟨F, H, []⟩ [] F H := ⟨fh, Same.refl F, fun a o h => .inl ⟨o, h⟩, fun _ _ _ h => h, fun _ o h => ⟨o, h⟩, List.nodup_nil, fun c hc => by cases hc⟩
end
/-! ### what the names hold -/
abbrev Gam := List (Option Vp)
def EnvF (Γ : Gam) (σ : L2.St) (F : Hp) : Prop := Paired (fun (e : Option Vp) (s : Option V) => ∀ p, e = some p → ∃ v, s = some v ∧ p.p F v) Γ σ
section
variable {Γ : Gam} {σ : L2.St} {F F' : Hp}
theorem EnvF.mono (h : EnvF Γ σ F) (e : Same F F') : EnvF Γ σ F' := Paired.imp2 (fun _ _ h p hp => by
  obtain ⟨v, h1, h2⟩ := h p hp
  exact ⟨v, h1, p.mono e h2⟩) h
theorem EnvF.get {i : Nat} {p : Vp} (h : EnvF Γ σ F) (hi : Γ[i]? = some (some p)) : ∃ v, σ[i]? = some (some v) ∧ p.p F v := by
  obtain ⟨s, h1, h2⟩ := Paired.get h hi
  obtain ⟨v, rfl, h3⟩ := h2 p rfl
  exact ⟨v, h1, h3⟩
theorem Paired.set {α β : Type} {R : α → β → Prop} {a : α} {b : β} (r : R a b) : ∀ {l : List α} {m : List β} (i : Nat), Paired R l m → Paired R (l.set i a) (m.set i b)
  | _, _, _, .nil => .nil
  | _, _, 0, .cons _ t => .cons r t
  | _, _, i + 1, .cons x t => .cons x (Paired.set r i t)
theorem EnvF.set {i : Nat} {p : Vp} {v : V} (h : EnvF Γ σ F) (hp : p.p F v) : EnvF (Γ.set i (some p)) (σ.set i (some v)) F :=
  Paired.set (fun q hq => by cases hq; exact ⟨v, rfl, hp⟩) i h
theorem EnvF.drop {i : Nat} {s : Option V} (h : EnvF Γ σ F) : EnvF (Γ.set i none) (σ.set i s) F := Paired.set (fun q hq => by cases hq) i h
theorem EnvF.len (h : EnvF Γ σ F) : Γ.length = σ.length := Paired.len h
end
/-! ### the judgements -/
def At (fr : Fr) (Γ : Gam) (Θ : List Cel) (σ : L2.St) (H : Hp) : Prop := ∃ F, OkF fr Θ F H ∧ EnvF Γ σ F
/-- wherever the names hold Γ and the cells Θ, P holds -/
def Kn (fr : Fr) (Γ : Gam) (Θ : List Cel) (P : L2.St → Hp → Prop) : Prop := ∀ σ F H, OkF fr Θ F H → EnvF Γ σ F → P σ H
def Kq (fr : Fr) (F : Hp) (K : Vp → List Cel → Prop) (Q : VK) : Prop := ∀ p Θ', K p Θ' → ∀ v F' H', Same F F' → OkF fr Θ' F' H' → p.p F' v → Q v H'
def Kb (fr : Fr) (F : Hp) (K : Bool → List Cel → Prop) (Q : Bool → Hp → Prop) : Prop := ∀ b Θ', K b Θ' → ∀ F' H', Same F F' → OkF fr Θ' F' H' → Q b H'
def Ka (fr : Fr) (F : Hp) (K : List Vp → List Cel → Prop) (Q : List V → Hp → Prop) : Prop := ∀ ps Θ', K ps Θ' → ∀ vs F' H', Same F F' → OkF fr Θ' F' H' → Paired (fun (p : Vp) v => p.p F' v) ps vs → Q vs H'
def Ko (fr : Fr) (F : Hp) (K : Option Int → List Cel → Prop) (Q : Option Int → Hp → Prop) : Prop := ∀ b Θ', K b Θ' → ∀ F' H', Same F F' → OkF fr Θ' F' H' → Q b H'
def We (fr : Fr) (Γ : Gam) (Θ : List Cel) (t : TE) (K : Vp → List Cel → Prop) : Prop := ∀ σ F H, OkF fr Θ F H → EnvF Γ σ F → ∀ Q, Kq fr F K Q → t σ H Q
def Wt (fr : Fr) (Γ : Gam) (Θ : List Cel) (t : TT) (K : Bool → List Cel → Prop) : Prop := ∀ σ F H, OkF fr Θ F H → EnvF Γ σ F → ∀ Q, Kb fr F K Q → t σ H Q
def Wa (fr : Fr) (Γ : Gam) (Θ : List Cel) (t : TA) (K : List Vp → List Cel → Prop) : Prop := ∀ σ F H, OkF fr Θ F H → EnvF Γ σ F → ∀ Q, Ka fr F K Q → t σ H Q
def Wo (fr : Fr) (Γ : Gam) (Θ : List Cel) (t : TO) (K : Option Int → List Cel → Prop) : Prop := ∀ σ F H, OkF fr Θ F H → EnvF Γ σ F → ∀ Q, Ko fr F K Q → t σ H Q
/-- by values -/
def Ops (fr : Fr) (Θ : List Cel) (r : R2) (p q : Vp) (K : Vp → List Cel → Prop) : Prop := ∀ F H v w, OkF fr Θ F H → p.p F v → q.p F w → ∀ Q, Kq fr F K Q → r v w H Q
def Uns (fr : Fr) (Θ : List Cel) (r : V → Hp → VK → Prop) (p : Vp) (K : Vp → List Cel → Prop) : Prop := ∀ F H v, OkF fr Θ F H → p.p F v → ∀ Q, Kq fr F K Q → r v H Q
def Cbs (fr : Fr) (Θ : List Cel) (r : List V → Hp → VK → Prop) (ps : List Vp) (K : Vp → List Cel → Prop) : Prop := ∀ F H vs, OkF fr Θ F H → Paired (fun (p : Vp) v => p.p F v) ps vs → ∀ Q, Kq fr F K Q → r vs H Q
def Mts (fr : Fr) (Θ : List Cel) (r : V → List V → Hp → VK → Prop) (p : Vp) (ps : List Vp) (K : Vp → List Cel → Prop) : Prop := ∀ F H v vs, OkF fr Θ F H → p.p F v → Paired (fun (p : Vp) v => p.p F v) ps vs → ∀ Q, Kq fr F K Q → r v vs H Q
def Sls (fr : Fr) (Θ : List Cel) (r : V → Option Int → Option Int → Hp → VK → Prop) (p : Vp) (lo hi : Option Int) (K : Vp → List Cel → Prop) : Prop := ∀ F H v, OkF fr Θ F H → p.p F v → ∀ Q, Kq fr F K Q → r v lo hi H Q
/-- the value alone, and nothing else changes -/
abbrev Ev (fr : Fr) (Γ : Gam) (Θ : List Cel) (t : TE) (p : Vp) : Prop := We fr Γ Θ t fun q Θ' => q = p ∧ Θ' = Θ
abbrev Et (fr : Fr) (Γ : Gam) (Θ : List Cel) (t : TT) (b : Bool) : Prop := Wt fr Γ Θ t fun c Θ' => c = b ∧ Θ' = Θ
section
variable {fr : Fr} {Γ Γ' : Gam} {Θ : List Cel} {F F' H H' : Hp} {K : Vp → List Cel → Prop} {Q : VK}
theorem Kq.mono (h : Kq fr F K Q) (e : Same F F') : Kq fr F' K Q := fun p Θ' k v F2 H2 s2 => h p Θ' k v F2 H2 (e.trans s2)
theorem Kq.go {p : Vp} {v : V} (h : Kq fr F K Q) (k : K p Θ) (ok : OkF fr Θ F H) (hp : p.p F v) : Q v H := h p Θ k v F H (Same.refl F) ok hp
/-- a new object -/
theorem Kq.new {p : Vp} {a : Addr} {o : HO} (h : Kq fr F K Q) (k : K p Θ) (ok : OkF fr Θ F H) (n : H a = none) (hp : p.p (upd F a o) (.ref a)) : Q (.ref a) (upd H a o) := h p Θ k _ _ _ (ok.sameF n) (ok.new n) hp
theorem We.imp {t : TE} {K' : Vp → List Cel → Prop} (w : We fr Γ Θ t K) (h : ∀ p Θ', K p Θ' → K' p Θ') : We fr Γ Θ t K' := fun σ F H ok env Q q => w σ F H ok env Q fun p Θ' k => q p Θ' (h p Θ' k)
theorem we_var {i : Nat} {p : Vp} (h : Γ[i]? = some (some p)) (k : K p Θ) : We fr Γ Θ (tVar i) K := fun σ F H ok env Q q => by
  obtain ⟨v, h1, h2⟩ := env.get h
  exact ⟨v, h1, q.go k ok h2⟩
theorem we_c {v : V} {p : Vp} (hp : ∀ F, p.p F v) (k : K p Θ) : We fr Γ Θ (tC v) K := fun σ F H ok env Q q => q.go k ok (hp F)
theorem we_cI {n : Int} (k : K (iz zI n) Θ) : We fr Γ Θ (tC (.int n)) K := we_c (fun _ => rfl) k
theorem we_cS {z : Str} (h : Asc z) (k : K (iz zS z) Θ) : We fr Γ Θ (tC (.str z)) K := we_c (p := iz zS z) (fun _ => ⟨rfl, h⟩) k
theorem we_cB {b : Bool} (k : K (iz zB b) Θ) : We fr Γ Θ (tC (.bl b)) K := we_c (fun _ => rfl) k
theorem we_cN (k : K zNon Θ) : We fr Γ Θ (tC .non) K := we_c (fun _ => rfl) k
theorem we_op {r : R2} {ta tb : TE} (w : We fr Γ Θ ta fun p Θ1 => We fr Γ Θ1 tb fun q Θ2 => Ops fr Θ2 r p q K) : We fr Γ Θ (tOp r ta tb) K := fun σ F H ok env Q q =>
  w σ F H ok env _ fun p Θ1 k v F1 H1 s1 ok1 hp => k σ F1 H1 ok1 (env.mono s1) _ fun p2 Θ2 k2 v2 F2 H2 s2 ok2 hp2 => k2 F2 H2 v v2 ok2 (p.mono s2 hp) hp2 Q (q.mono (s1.trans s2))
theorem we_un {r : V → Hp → VK → Prop} {ta : TE} (w : We fr Γ Θ ta fun p Θ1 => Uns fr Θ1 r p K) : We fr Γ Θ (tUn r ta) K := fun σ F H ok env Q q =>
  w σ F H ok env _ fun p Θ1 k v F1 H1 s1 ok1 hp => k F1 H1 v ok1 hp Q (q.mono s1)
theorem wa_nil {K : List Vp → List Cel → Prop} (k : K [] Θ) : Wa fr Γ Θ tNil K := fun σ F H ok env Q q => q [] Θ k [] F H (Same.refl F) ok .nil
theorem wa_cons {K : List Vp → List Cel → Prop} {ta : TE} {tr : TA} (w : We fr Γ Θ ta fun p Θ1 => Wa fr Γ Θ1 tr fun ps Θ2 => K (p :: ps) Θ2) : Wa fr Γ Θ (tCons ta tr) K := fun σ F H ok env Q q =>
  w σ F H ok env _ fun p Θ1 k v F1 H1 s1 ok1 hp => k σ F1 H1 ok1 (env.mono s1) _ fun ps Θ2 k2 vs F2 H2 s2 ok2 hps => q (p :: ps) Θ2 k2 (v :: vs) F2 H2 (s1.trans s2) ok2 (.cons (p.mono s2 hp) hps)
theorem we_cb {r : List V → Hp → VK → Prop} {t : TA} (w : Wa fr Γ Θ t fun ps Θ1 => Cbs fr Θ1 r ps K) : We fr Γ Θ (tCB r t) K := fun σ F H ok env Q q =>
  w σ F H ok env _ fun ps Θ1 k vs F1 H1 s1 ok1 hps => k F1 H1 vs ok1 hps Q (q.mono s1)
theorem we_call {sp : Sp} {E : XK} {t : TA} (w : Wa fr Γ Θ t fun ps Θ1 => Cbs fr Θ1 (fun vs H Q => sp (vs ++ []) H Q E) ps K) : We fr Γ Θ (tCall sp [] E t) K := fun σ F H ok env Q q =>
  w σ F H ok env _ fun ps Θ1 k vs F1 H1 s1 ok1 hps => k F1 H1 vs ok1 hps Q (q.mono s1)
theorem we_bm {Kf : PySem.W.Frag} {T : String} {r : V → List V → Hp → VK → Prop} {to : TE} {t : TA} (w : We fr Γ Θ to fun p Θ1 => (∀ F H v, OkF fr Θ1 F H → p.p F v → tyV Kf T v H) ∧ Wa fr Γ Θ1 t fun ps Θ2 => Mts fr Θ2 r p ps K) : We fr Γ Θ (tBM Kf T r to t) K := fun σ F H ok env Q q =>
  w σ F H ok env _ fun p Θ1 ⟨kt, k⟩ v F1 H1 s1 ok1 hp => ⟨kt F1 H1 v ok1 hp, k σ F1 H1 ok1 (env.mono s1) _ fun ps Θ2 k2 vs F2 H2 s2 ok2 hps => k2 F2 H2 v vs ok2 (p.mono s2 hp) hps Q (q.mono (s1.trans s2))⟩
theorem we_bm0 {Kf : PySem.W.Frag} {T : String} {r : V → List V → Hp → VK → Prop} {to : TE} (w : We fr Γ Θ to fun p Θ1 => (∀ F H v, OkF fr Θ1 F H → p.p F v → tyV Kf T v H) ∧ Mts fr Θ1 r p [] K) : We fr Γ Θ (tBM0 Kf T r to) K := fun σ F H ok env Q q =>
  w σ F H ok env _ fun p Θ1 ⟨kt, k⟩ v F1 H1 s1 ok1 hp => ⟨kt F1 H1 v ok1 hp, k F1 H1 v [] ok1 hp .nil Q (q.mono s1)⟩
theorem wo_none {K : Option Int → List Cel → Prop} (k : K none Θ) : Wo fr Γ Θ tNoPart K := fun σ F H ok env Q q => q none Θ k F H (Same.refl F) ok
theorem wo_some {K : Option Int → List Cel → Prop} {t : TE} (w : We fr Γ Θ t fun p Θ1 => ∃ n, p = iz zI n ∧ K (some n) Θ1) : Wo fr Γ Θ (tPart t) K := fun σ F H ok env Q q =>
  w σ F H ok env _ fun p Θ1 ⟨n, e, k⟩ v F1 H1 s1 ok1 hp => by
    subst e
    exact ⟨n, hp, q (some n) Θ1 k F1 H1 s1 ok1⟩
theorem we_sl {r : V → Option Int → Option Int → Hp → VK → Prop} {te : TE} {tl th : TO} (w : We fr Γ Θ te fun p Θ1 => Wo fr Γ Θ1 tl fun lo Θ2 => Wo fr Γ Θ2 th fun hi Θ3 => Sls fr Θ3 r p lo hi K) : We fr Γ Θ (tSl r te tl th) K := fun σ F H ok env Q q =>
  w σ F H ok env _ fun p Θ1 k v F1 H1 s1 ok1 hp => k σ F1 H1 ok1 (env.mono s1) _ fun lo Θ2 k2 F2 H2 s2 ok2 => k2 σ F2 H2 ok2 ((env.mono s1).mono s2) _ fun hi Θ3 k3 F3 H3 s3 ok3 =>
    k3 F3 H3 v ok3 (p.mono (s2.trans s3) hp) Q (q.mono ((s1.trans s2).trans s3))
/-! tests -/
theorem wt_test {K : Bool → List Cel → Prop} {t : TE} (w : We fr Γ Θ t fun p Θ1 => ∃ b, p = iz zB b ∧ K b Θ1) : Wt fr Γ Θ (tTest t) K := fun σ F H ok env Q q =>
  w σ F H ok env _ fun p Θ1 ⟨b, e, k⟩ v F1 H1 s1 ok1 hp => by
    subst e
    exact ⟨b, hp, q b Θ1 k F1 H1 s1 ok1⟩
theorem wt_b {K : Bool → List Cel → Prop} {t : TE} (w : We fr Γ Θ t fun p Θ1 => ∃ b, p = iz zB b ∧ K b Θ1) : Wt fr Γ Θ (tB t) K := wt_test (fr := fr) w
theorem wt_not {K : Bool → List Cel → Prop} {t : TT} (w : Wt fr Γ Θ t fun b Θ1 => K (!b) Θ1) : Wt fr Γ Θ (tNot t) K := fun σ F H ok env Q q =>
  w σ F H ok env _ fun b Θ1 k F1 H1 s1 ok1 => q (!b) Θ1 k F1 H1 s1 ok1
theorem wt_and {K : Bool → List Cel → Prop} {t u : TT} {b c : Bool} (w : Et fr Γ Θ t b) (x : b = true → Et fr Γ Θ u c) (k : K (b && c) Θ) : Wt fr Γ Θ (tAnd t u) K := fun σ F H ok env Q q =>
  w σ F H ok env _ fun b1 Θ1 ⟨e1, e2⟩ F1 H1 s1 ok1 => by
    subst e1 e2
    cases b1 with
    | true =>
      rw [if_pos rfl]
      refine x rfl σ F1 H1 ok1 (env.mono s1) _ fun c1 Θ2 ⟨e1, e2⟩ F2 H2 s2 ok2 => ?_
      subst e1 e2
      exact q c1 _ k F2 H2 (s1.trans s2) ok2
    | false =>
      rw [if_neg Bool.false_ne_true]
      exact q false _ k F1 H1 s1 ok1
theorem wt_or {K : Bool → List Cel → Prop} {t u : TT} {b c : Bool} (w : Et fr Γ Θ t b) (x : b = false → Et fr Γ Θ u c) (k : K (b || c) Θ) : Wt fr Γ Θ (tOr t u) K := fun σ F H ok env Q q =>
  w σ F H ok env _ fun b1 Θ1 ⟨e1, e2⟩ F1 H1 s1 ok1 => by
    subst e1 e2
    cases b1 with
    | false =>
      rw [if_neg Bool.false_ne_true]
      refine x rfl σ F1 H1 ok1 (env.mono s1) _ fun c1 Θ2 ⟨e1, e2⟩ F2 H2 s2 ok2 => ?_
      subst e1 e2
      exact q c1 _ k F2 H2 (s1.trans s2) ok2
    | true =>
      rw [if_pos rfl]
      exact q true _ k F1 H1 s1 ok1
theorem we_and {t u : TE} {b c : Bool} (w : Ev fr Γ Θ t (iz zB b)) (x : b = true → Ev fr Γ Θ u (iz zB c)) (k : K (iz zB (b && c)) Θ) : We fr Γ Θ (tAndV t u) K := fun σ F H ok env Q q =>
  w σ F H ok env _ fun p1 Θ1 ⟨e1, e2⟩ v F1 H1 s1 ok1 hp => by
    subst e1 e2
    have hp : v = .bl b := hp
    refine ⟨b, hp, ?_⟩
    cases b with
    | true =>
      rw [if_pos rfl]
      refine x rfl σ F1 H1 ok1 (env.mono s1) _ fun c1 Θ2 ⟨e1, e2⟩ v2 F2 H2 s2 ok2 hp2 => ?_
      subst e1 e2
      exact q _ _ k v2 F2 H2 (s1.trans s2) ok2 hp2
    | false =>
      rw [if_neg Bool.false_ne_true]
      exact q _ _ k _ F1 H1 s1 ok1 rfl
theorem we_or {t u : TE} {b c : Bool} (w : Ev fr Γ Θ t (iz zB b)) (x : b = false → Ev fr Γ Θ u (iz zB c)) (k : K (iz zB (b || c)) Θ) : We fr Γ Θ (tOrV t u) K := fun σ F H ok env Q q =>
  w σ F H ok env _ fun p1 Θ1 ⟨e1, e2⟩ v F1 H1 s1 ok1 hp => by
    subst e1 e2
    have hp : v = .bl b := hp
    refine ⟨b, hp, ?_⟩
    cases b with
    | false =>
      rw [if_neg Bool.false_ne_true]
      refine x rfl σ F1 H1 ok1 (env.mono s1) _ fun c1 Θ2 ⟨e1, e2⟩ v2 F2 H2 s2 ok2 hp2 => ?_
      subst e1 e2
      exact q _ _ k v2 F2 H2 (s1.trans s2) ok2 hp2
    | true =>
      rw [if_pos rfl]
      exact q _ _ k _ F1 H1 s1 ok1 rfl
theorem we_not {t : TE} (w : We fr Γ Θ t fun p Θ1 => ∃ b, p = iz zB b ∧ K (iz zB (!b)) Θ1) : We fr Γ Θ (tNotV t) K := fun σ F H ok env Q q =>
  w σ F H ok env _ fun p Θ1 ⟨b, e, k⟩ v F1 H1 s1 ok1 hp => by
    subst e
    exact ⟨b, hp, q _ Θ1 k _ F1 H1 s1 ok1 rfl⟩
/-- a if c else b, by ways -/
theorem we_if {c : TT} {ta tb : TE} (w : Wt fr Γ Θ c fun b Θ1 => (b = true → We fr Γ Θ1 ta K) ∧ (b = false → We fr Γ Θ1 tb K)) : We fr Γ Θ (tIf c ta tb) K := fun σ F H ok env Q q =>
  w σ F H ok env _ fun b Θ1 ⟨k1, k2⟩ F1 H1 s1 ok1 => by
    cases b with
    | true =>
      rw [if_pos rfl]
      exact k1 rfl σ F1 H1 ok1 (env.mono s1) Q (q.mono s1)
    | false =>
      rw [if_neg Bool.false_ne_true]
      exact k2 rfl σ F1 H1 ok1 (env.mono s1) Q (q.mono s1)
/-- a if c else b, joined -/
theorem we_ifJ {α : Type} {r : Rep α} {x y : α} {c : TT} {ta tb : TE} {b : Bool} (w : Et fr Γ Θ c b) (wa : b = true → Ev fr Γ Θ ta (iz r x)) (wb : b = false → Ev fr Γ Θ tb (iz r y)) (k : K (iz r (if b = true then x else y)) Θ) : We fr Γ Θ (tIf c ta tb) K :=
  we_if fun σ F H ok env Q q => w σ F H ok env Q fun b1 Θ1 ⟨e1, e2⟩ => q b1 Θ1 (by
    subst e1 e2
    refine ⟨fun h => (wa h).imp fun p Θ' ⟨e1, e2⟩ => ?_, fun h => (wb h).imp fun p Θ' ⟨e1, e2⟩ => ?_⟩
    · subst e1 e2
      rw [if_pos h] at k
      exact k
    · subst e1 e2
      rw [if_neg (by rw [h]; exact Bool.false_ne_true)] at k
      exact k)
/-! ### statements -/
theorem kn_seq {t u : TS} {D : Ends} (h : Kn fr Γ Θ (t { D with nx := u D })) : Kn fr Γ Θ (tSeq t u D) := h
theorem kn_next {D : Ends} (h : Kn fr Γ Θ D.nx) : Kn fr Γ Θ (tNext D) := h
theorem kn_break {D : Ends} (h : Kn fr Γ Θ D.bk) : Kn fr Γ Θ (tBreak D) := h
theorem kn_cont {D : Ends} (h : Kn fr Γ Θ D.ct) : Kn fr Γ Θ (tCont D) := h
/-- a target -/
def TgR (g : TG) (vs : List Nat) (p : Vp) (Γ Γ' : Gam) : Prop := ∀ σ F H v, Same F H → EnvF Γ σ F → p.p F v → ∀ Q : L2.St → Hp → Prop, (∀ σ', EnvF Γ' σ' F → wipe σ' vs = wipe σ vs → Q σ' H) → g v σ H Q
theorem tg_name {i : Nat} {p : Vp} : TgR (gName i) [i] p Γ (Γ.set i (some p)) := fun σ F H v fh env hp Q q => q _ (env.set hp) (by
  show (σ.set i (some v)).set i none = σ.set i none
  rw [List.set_set])
theorem set_comm' {α : Type} {l : List α} {i j : Nat} {a b : α} (h : i ≠ j) : (l.set i a).set j b = (l.set j b).set i a := List.set_comm a b h
theorem tg2 {Kf : PySem.W.Frag} {i j : Nat} {α β : Type} {r : Rep α} {s : Rep β} {x : α × β} (hij : i ≠ j) : TgR (gTup Kf 2 (gCons (gName i) (gCons (gName j) gNil))) [i, j] (iz (z2 r s) x) Γ ((Γ.set i (some (iz r x.1))).set j (some (iz s x.2))) := fun σ F H v fh env hp Q q => by
  obtain ⟨a, u, w, rfl, h2, h3, h4⟩ := hp
  refine ⟨a, _, rfl, SqT.of (fh _ _ h2), rfl, u, _, rfl, w, _, rfl, rfl, q _ ((env.set (p := iz r x.1) h3).set (p := iz s x.2) h4) ?_⟩
  show ((((σ.set i (some u)).set j (some w)).set j none).set i none) = (σ.set j none).set i none
  rw [List.set_set, set_comm' hij, List.set_set]
theorem tg3 {Kf : PySem.W.Frag} {i j l : Nat} {α β γ : Type} {r : Rep α} {s : Rep β} {t : Rep γ} {x : α × β × γ} (hij : i ≠ j) (hil : i ≠ l) (hjl : j ≠ l) : TgR (gTup Kf 3 (gCons (gName i) (gCons (gName j) (gCons (gName l) gNil)))) [i, j, l] (iz (z3 r s t) x) Γ (((Γ.set i (some (iz r x.1))).set j (some (iz s x.2.1))).set l (some (iz t x.2.2))) := fun σ F H v fh env hp Q q => by
  obtain ⟨a, u, w, z, rfl, h2, h3, h4, h5⟩ := hp
  refine ⟨a, _, rfl, SqT.of (fh _ _ h2), rfl, u, _, rfl, w, _, rfl, z, _, rfl, rfl, q _ (((env.set (p := iz r x.1) h3).set (p := iz s x.2.1) h4).set (p := iz t x.2.2) h5) ?_⟩
  show ((((((σ.set i (some u)).set j (some w)).set l (some z)).set l none).set j none).set i none) = ((σ.set l none).set j none).set i none
  rw [List.set_set, set_comm' hjl, List.set_set, set_comm' hil, set_comm' hij, List.set_set]
theorem kn_asg {te : TE} {i : Nat} {D : Ends} (w : We fr Γ Θ te fun p Θ1 => Kn fr (Γ.set i (some p)) Θ1 D.nx) : Kn fr Γ Θ (tAsg te (gName i) D) := fun σ F H ok env =>
  w σ F H ok env _ fun p Θ1 k v F1 H1 s1 ok1 hp => k _ F1 H1 ok1 ((env.mono s1).set hp)
theorem kn_asgT {te : TE} {g : TG} {D : Ends} (w : We fr Γ Θ te fun p Θ1 => ∃ vs Γ', TgR g vs p Γ Γ' ∧ Kn fr Γ' Θ1 D.nx) : Kn fr Γ Θ (tAsg te g D) := fun σ F H ok env =>
  w σ F H ok env _ fun p Θ1 ⟨vs, Γ', tg, k⟩ v F1 H1 s1 ok1 hp => tg σ F1 H1 v ok1.fh (env.mono s1) hp _ fun σ' env' _ => k σ' F1 H1 ok1 env'
theorem kn_if {c : TT} {t u : TS} {D : Ends} (w : Wt fr Γ Θ c fun b Θ1 => (b = true → Kn fr Γ Θ1 (t D)) ∧ (b = false → Kn fr Γ Θ1 (u D))) : Kn fr Γ Θ (tIfS c t u D) := fun σ F H ok env =>
  w σ F H ok env _ fun b Θ1 ⟨k1, k2⟩ F1 H1 s1 ok1 => by
    cases b with
    | true =>
      rw [if_pos rfl]
      exact k1 rfl σ F1 H1 ok1 (env.mono s1)
    | false =>
      rw [if_neg Bool.false_ne_true]
      exact k2 rfl σ F1 H1 ok1 (env.mono s1)
/-- what is returned -/
def Rt (fr : Fr) (Θ : List Cel) (rt : VK) (p : Vp) : Prop := ∀ v F H, OkF fr Θ F H → p.p F v → rt v H
theorem kn_ret {te : TE} {D : Ends} (w : We fr Γ Θ te fun p Θ1 => Rt fr Θ1 D.rt p) : Kn fr Γ Θ (tRet te D) := fun σ F H ok env =>
  w σ F H ok env _ fun p Θ1 k v F1 H1 s1 ok1 hp => k v F1 H1 ok1 hp
theorem kn_retN {D : Ends} (k : Rt fr Θ D.rt zNon) : Kn fr Γ Θ (tRetN D) := fun σ F H ok env => k .non F H ok rfl
theorem kn_drop {te : TE} {D : Ends} (w : We fr Γ Θ te fun p Θ1 => Kn fr Γ Θ1 D.nx) : Kn fr Γ Θ (tDrop te D) := fun σ F H ok env =>
  w σ F H ok env _ fun p Θ1 k v F1 H1 s1 ok1 hp => k σ F1 H1 ok1 (env.mono s1)
/-- a cell is frozen, at a name -/
theorem kn_frz {α : Type} {r : Rep α} {xs : List α} {a : Addr} {i j : Nat} {P : L2.St → Hp → Prop} (hi : Γ[i]? = some (some (zAt a))) (hj : Θ[j]? = some (cL a r xs)) (k : Kn fr (Γ.set i (some (iz (zL r) xs))) (Θ.eraseIdx j) P) : Kn fr Γ Θ P := fun σ F H ok env => by
  obtain ⟨v, h1, h2⟩ := env.get hi
  have h2 : v = .ref a := h2
  subst h2
  obtain ⟨_, ⟨o, h3, vs, rfl, h5⟩, _⟩ := ok.ce _ (List.mem_of_getElem? hj)
  have h3 : H a = some (.lst vs) := h3
  have ok2 := ok.frz hj rfl h3
  have s2 : Same F (upd F a (.lst vs)) := same_upd (ok.ce _ (List.mem_of_getElem? hj)).1
  have e : σ.set i (some (V.ref a)) = σ := by
    apply List.ext_getElem?
    intro m
    rw [List.getElem?_set]
    split
    · rename_i q
      subst q
      rw [if_pos (List.getElem?_eq_some_iff.mp h1).1, h1]
    · rfl
  have := (env.mono s2).set (i := i) (p := iz (zL r) xs) (v := .ref a) ⟨a, vs, rfl, upd_same, Paired.imp2 (fun _ _ h => r.mono s2 h) h5⟩
  rw [e] at this
  exact k σ _ H ok2 this
theorem rt_frz {α : Type} {r : Rep α} {xs : List α} {a : Addr} {j : Nat} {rt : VK} (hj : Θ[j]? = some (cL a r xs)) (k : Rt fr (Θ.eraseIdx j) rt (iz (zL r) xs)) : Rt fr Θ rt (zAt a) := fun v F H ok hp => by
  have hp : v = .ref a := hp
  subst hp
  obtain ⟨h0, ⟨o, h3, vs, rfl, h5⟩, _⟩ := ok.ce _ (List.mem_of_getElem? hj)
  have h3 : H a = some (.lst vs) := h3
  have ok2 := ok.frz hj rfl h3
  exact k _ _ H ok2 ⟨a, vs, rfl, upd_same, Paired.imp2 (fun _ _ h => r.mono (same_upd h0) h) h5⟩
/-- less is known -/
def GLe (Γ Γ' : Gam) : Prop := Paired (fun (e e' : Option Vp) => e' = none ∨ e' = e) Γ Γ'
theorem EnvF.le {σ : L2.St} (h : EnvF Γ σ F) (l : GLe Γ Γ') : EnvF Γ' σ F := by
  induction l generalizing σ with
  | nil => exact h
  | cons a _ ih =>
    cases h with
    | cons b c =>
      refine .cons (fun p hp => ?_) (ih c)
      rcases a with a | a
      · rw [a] at hp
        cases hp
      · rw [a] at hp
        exact b p hp
theorem Kn.le {P : L2.St → Hp → Prop} (k : Kn fr Γ' Θ P) (l : GLe Γ Γ') : Kn fr Γ Θ P := fun σ F H ok env => k σ F H ok (env.le l)
/-- a point where ways meet -/
def Mid (fr : Fr) (I : Gam → List Cel → Prop) (σ : L2.St) (H : Hp) : Prop := ∃ Γ Θ F, I Γ Θ ∧ OkF fr Θ F H ∧ EnvF Γ σ F
theorem kn_mid {I : Gam → List Cel → Prop} (h : ∃ Γ', GLe Γ Γ' ∧ I Γ' Θ) : Kn fr Γ Θ (Mid fr I) := fun σ F H ok env => by
  obtain ⟨Γ', l, i⟩ := h
  exact ⟨Γ', Θ, F, i, ok, env.le l⟩
theorem kn_cut {t u : TS} {D : Ends} (I : Gam → List Cel → Prop) (h : Kn fr Γ Θ (t { D with nx := Mid fr I })) (k : ∀ Γ Θ, I Γ Θ → Kn fr Γ Θ (u D)) : Kn fr Γ Θ (C8.tCut t u D) := fun σ F H ok env =>
  ⟨Mid fr I, h σ F H ok env, fun σ' H' ⟨Γ1, Θ1, F1, i, ok1, env1⟩ => k Γ1 Θ1 i σ' F1 H' ok1 env1⟩
end
end L2

set_option Elab.async false
set_option linter.all false
set_option maxRecDepth 100000
set_option maxHeartbeats 4000000
/-! The ground, by values: operators, subscripts, calls of built-ins; walked things, loops, comprehensions. -/
namespace L2
open PySem PySem.Spec PyProof.Rows PySem.HErr
section
variable {fr : Fr} {Γ Γ' : Gam} {Θ : List Cel} {F F' H H' : Hp} {K : Vp → List Cel → Prop} {Q : VK}
theorem ops_I0 {h : Int → Int → Int} {m n : Int} (k : K (iz zI (h m n)) Θ) : Ops fr Θ (rI0 fun i j => .int (h i j)) (iz zI m) (iz zI n) K := fun F H v w ok hv hw Q q => ⟨m, n, hv, hw, q.go k ok rfl⟩
theorem ops_B0 {h : Int → Int → Bool} {m n : Int} (k : K (iz zB (h m n)) Θ) : Ops fr Θ (rI0 fun i j => .bl (h i j)) (iz zI m) (iz zI n) K := fun F H v w ok hv hw Q q => ⟨m, n, hv, hw, q.go k ok rfl⟩
theorem ops_IC {C : Int → Int → Prop} {h : Int → Int → Int} {m n : Int} (c : C m n) (k : K (iz zI (h m n)) Θ) : Ops fr Θ (rI C fun i j => .int (h i j)) (iz zI m) (iz zI n) K := fun F H v w ok hv hw Q q => ⟨m, n, hv, hw, c, q.go k ok rfl⟩
theorem uns_I {h : Int → Int} {m : Int} (k : K (iz zI (h m)) Θ) : Uns fr Θ (rU fun i => .int (h i)) (iz zI m) K := fun F H v ok hv Q q => ⟨m, hv, q.go k ok rfl⟩
theorem dec_inj {α : Type} [DecidableEq α] {c : α → V} (hc : ∀ x y, c x = c y → x = y) (x y : α) : decide (c x = c y) = decide (x = y) := by
  by_cases e : x = y
  · rw [e, decide_eq_true rfl, decide_eq_true rfl]
  · rw [decide_eq_false e, decide_eq_false fun q => e (hc _ _ q)]
theorem ops_eqI {m n : Int} (k : K (iz zB (decide (m = n))) Θ) : Ops fr Θ rEq (iz zI m) (iz zI n) K := fun F H v w ok hv hw Q q => by
  have hv : v = .int m := hv
  have hw : w = .int n := hw
  subst hv hw
  refine ⟨rfl, ?_⟩
  rw [dec_inj (fun x y => V.int.inj)]
  exact q.go k ok rfl
theorem ops_neI {m n : Int} (k : K (iz zB (!decide (m = n))) Θ) : Ops fr Θ rNe (iz zI m) (iz zI n) K := fun F H v w ok hv hw Q q => by
  have hv : v = .int m := hv
  have hw : w = .int n := hw
  subst hv hw
  refine ⟨rfl, ?_⟩
  rw [dec_inj (fun x y => V.int.inj)]
  exact q.go k ok rfl
theorem ops_eqS {m n : Str} (k : K (iz zB (decide (m = n))) Θ) : Ops fr Θ rEq (iz zS m) (iz zS n) K := fun F H v w ok hv hw Q q => by
  obtain ⟨hv, _⟩ := hv
  obtain ⟨hw, _⟩ := hw
  subst hv hw
  refine ⟨rfl, ?_⟩
  rw [dec_inj (fun x y => V.str.inj)]
  exact q.go k ok rfl
theorem ops_neS {m n : Str} (k : K (iz zB (!decide (m = n))) Θ) : Ops fr Θ rNe (iz zS m) (iz zS n) K := fun F H v w ok hv hw Q q => by
  obtain ⟨hv, _⟩ := hv
  obtain ⟨hw, _⟩ := hw
  subst hv hw
  refine ⟨rfl, ?_⟩
  rw [dec_inj (fun x y => V.str.inj)]
  exact q.go k ok rfl
theorem ops_eqB {m n : Bool} (k : K (iz zB (decide (m = n))) Θ) : Ops fr Θ rEq (iz zB m) (iz zB n) K := fun F H v w ok hv hw Q q => by
  have hv : v = .bl m := hv
  have hw : w = .bl n := hw
  subst hv hw
  refine ⟨rfl, ?_⟩
  rw [dec_inj (fun x y => V.bl.inj)]
  exact q.go k ok rfl
theorem ops_neB {m n : Bool} (k : K (iz zB (!decide (m = n))) Θ) : Ops fr Θ rNe (iz zB m) (iz zB n) K := fun F H v w ok hv hw Q q => by
  have hv : v = .bl m := hv
  have hw : w = .bl n := hw
  subst hv hw
  refine ⟨rfl, ?_⟩
  rw [dec_inj (fun x y => V.bl.inj)]
  exact q.go k ok rfl
theorem ops_addS {m n : Str} (hl : m.length + n.length ≤ sizeLine) (k : K (iz zS (m ++ n)) Θ) : Ops fr Θ (fun x y H Q => ∃ i j, x = .str i ∧ y = .str j ∧ i.length + j.length ≤ sizeLine ∧ Q (.str (i ++ j)) H) (iz zS m) (iz zS n) K := fun F H v w ok hv hw Q q => by
  obtain ⟨hv, a1⟩ := hv
  obtain ⟨hw, a2⟩ := hw
  exact ⟨m, n, hv, hw, hl, q.go k ok ⟨rfl, a1.app a2⟩⟩
/-! sequences -/
theorem pvs_S {vs : List V} {xs : List Str} (h : PVs zS F vs xs) : vs = xs.map V.str ∧ ∀ x ∈ xs, Asc x := by
  induction h with
  | nil => exact ⟨rfl, fun x hx => by cases hx⟩
  | cons a _ ih =>
    obtain ⟨a1, a2⟩ := a
    refine ⟨by rw [a1, ih.1]; rfl, fun x hx => ?_⟩
    rcases List.mem_cons.mp hx with rfl | hx
    · exact a2
    · exact ih.2 x hx
theorem pvs_I {vs : List V} {xs : List Int} (h : PVs zI F vs xs) : vs = xs.map V.int := by
  induction h with
  | nil => rfl
  | cons a _ ih =>
    have a : _ = V.int _ := a
    rw [a, ih]
    rfl
theorem pvs_B {vs : List V} {xs : List Bool} (h : PVs zB F vs xs) : vs = xs.map V.bl := by
  induction h with
  | nil => rfl
  | cons a _ ih =>
    have a : _ = V.bl _ := a
    rw [a, ih]
    rfl
theorem inV_ints (n : Int) (ws : List Int) : inV (.int n) (ws.map V.int) = decide (n ∈ ws) := by
  induction ws with
  | nil => rfl
  | cons a ws ih =>
    unfold inV at ih ⊢
    rw [List.map_cons, List.any_cons, ih]
    have e : eqV (V.int a) (V.int n) = decide (a = n) := rfl
    rw [e]
    by_cases h : a = n
    · rw [h]
      simp
    · rw [decide_eq_false h, Bool.false_or]
      by_cases h2 : n ∈ ws
      · rw [decide_eq_true h2, decide_eq_true (List.mem_cons_of_mem _ h2)]
      · rw [decide_eq_false h2, decide_eq_false fun q => (List.mem_cons.mp q).elim (fun e => h e.symm) h2]
theorem flat_intsG (ws : List Int) : (ws.map V.int).all flatV = true := by
  rw [List.all_map, List.all_eq_true]
  intro x _
  rfl
/-- a thing whose entries are xs, to be read: a frozen list, a frozen tuple, a cell -/
def SeqP {α : Type} (fr : Fr) (Θ : List Cel) (p : Vp) (r : Rep α) (xs : List α) : Prop := ∀ F H v, OkF fr Θ F H → p.p F v → ∃ a vs, v = .ref a ∧ (Rd H a (.lst vs) ∨ Rd H a (.tup vs)) ∧ PVs r F vs xs
theorem seq_L {α : Type} {r : Rep α} {xs : List α} : SeqP fr Θ (iz (zL r) xs) r xs := fun F H v ok ⟨a, vs, h1, h2, h3⟩ => ⟨a, vs, h1, .inl (.inl (ok.fh _ _ h2)), h3⟩
theorem seq_T {α : Type} {r : Rep α} {xs : List α} : SeqP fr Θ (iz (zT r) xs) r xs := fun F H v ok ⟨a, vs, h1, h2, h3⟩ => ⟨a, vs, h1, .inr (.inl (ok.fh _ _ h2)), h3⟩
theorem seq_C {α : Type} {r : Rep α} {xs : List α} {a : Addr} (hc : cL a r xs ∈ Θ) : SeqP fr Θ (zAt a) r xs := fun F H v ok hv => by
  obtain ⟨_, ⟨o, h2, vs, rfl, h4⟩, _⟩ := ok.ce _ hc
  exact ⟨a, vs, hv, .inl (.inl h2), h4⟩
theorem sq_or {Kf : PySem.W.Frag} {a : Addr} {vs : List V} (h : Rd H a (.lst vs) ∨ Rd H a (.tup vs)) : SqL Kf H a vs ∨ SqT Kf H a vs := h.elim (fun h => .inl (.inl h)) fun h => .inr (.inl h)
theorem ops_inS {Kf : PySem.W.Frag} {p : Vp} {z : Str} {xs : List Str} (h : SeqP fr Θ p zS xs) (k : K (iz zB (decide (z ∈ xs))) Θ) : Ops fr Θ (rIn Kf false) (iz zS z) p K := fun F H v w ok hv hw Q q => by
  obtain ⟨hv, _⟩ := hv
  obtain ⟨a, vs, rfl, h2, h3⟩ := h F H w ok hw
  obtain ⟨rfl, _⟩ := pvs_S h3
  subst hv
  refine ⟨a, _, rfl, sq_or h2, rfl, flat_strsB _, ?_⟩
  rw [inV_strs]
  exact q.go k ok rfl
theorem ops_ninS {Kf : PySem.W.Frag} {p : Vp} {z : Str} {xs : List Str} (h : SeqP fr Θ p zS xs) (k : K (iz zB (!decide (z ∈ xs))) Θ) : Ops fr Θ (rIn Kf true) (iz zS z) p K := fun F H v w ok hv hw Q q => by
  obtain ⟨hv, _⟩ := hv
  obtain ⟨a, vs, rfl, h2, h3⟩ := h F H w ok hw
  obtain ⟨rfl, _⟩ := pvs_S h3
  subst hv
  refine ⟨a, _, rfl, sq_or h2, rfl, flat_strsB _, ?_⟩
  rw [inV_strs]
  exact q.go k ok rfl
theorem ops_inI {Kf : PySem.W.Frag} {p : Vp} {z : Int} {xs : List Int} (h : SeqP fr Θ p zI xs) (k : K (iz zB (decide (z ∈ xs))) Θ) : Ops fr Θ (rIn Kf false) (iz zI z) p K := fun F H v w ok hv hw Q q => by
  have hv : v = .int z := hv
  obtain ⟨a, vs, rfl, h2, h3⟩ := h F H w ok hw
  have := pvs_I h3
  subst hv this
  refine ⟨a, _, rfl, sq_or h2, rfl, flat_intsG _, ?_⟩
  rw [inV_ints]
  exact q.go k ok rfl
theorem ops_ninI {Kf : PySem.W.Frag} {p : Vp} {z : Int} {xs : List Int} (h : SeqP fr Θ p zI xs) (k : K (iz zB (!decide (z ∈ xs))) Θ) : Ops fr Θ (rIn Kf true) (iz zI z) p K := fun F H v w ok hv hw Q q => by
  have hv : v = .int z := hv
  obtain ⟨a, vs, rfl, h2, h3⟩ := h F H w ok hw
  have := pvs_I h3
  subst hv this
  refine ⟨a, _, rfl, sq_or h2, rfl, flat_intsG _, ?_⟩
  rw [inV_ints]
  exact q.go k ok rfl
theorem pvs_at {α : Type} {r : Rep α} {vs : List V} {xs : List α} {n : Int} {x : α} (h : PVs r F vs xs) (e : atI xs n = some x) : ∃ v, atI vs n = some v ∧ r.p F v x := by
  unfold atI at e ⊢
  rw [Paired.len h]
  cases q : ixN xs.length n with
  | none =>
    rw [q] at e
    cases e
  | some j =>
    rw [q] at e
    exact Paired.get' h e
theorem ops_ixL {Kf : PySem.W.Frag} {α : Type} {r : Rep α} {xs : List α} {n : Int} {x : α} (e : atI xs n = some x) (k : K (iz r x) Θ) : Ops fr Θ (rIxL Kf) (iz (zL r) xs) (iz zI n) K := fun F H v w ok hv hw Q q => by
  obtain ⟨a, vs, rfl, h2, h3⟩ := hv
  obtain ⟨u, h4, h5⟩ := pvs_at h3 e
  exact ⟨a, vs, n, u, rfl, hw, SqL.of (ok.fh _ _ h2), h4, q.go k ok h5⟩
theorem ops_ixC {Kf : PySem.W.Frag} {α : Type} {r : Rep α} {xs : List α} {n : Int} {x : α} {a : Addr} (hc : cL a r xs ∈ Θ) (e : atI xs n = some x) (k : K (iz r x) Θ) : Ops fr Θ (rIxL Kf) (zAt a) (iz zI n) K := fun F H v w ok hv hw Q q => by
  obtain ⟨_, ⟨o, h2, vs, rfl, h3⟩, _⟩ := ok.ce _ hc
  obtain ⟨u, h4, h5⟩ := pvs_at h3 e
  exact ⟨a, vs, n, u, hv, hw, SqL.of h2, h4, q.go k ok h5⟩
theorem ops_ixT {Kf : PySem.W.Frag} {α : Type} {r : Rep α} {xs : List α} {n : Int} {x : α} (e : atI xs n = some x) (k : K (iz r x) Θ) : Ops fr Θ (rIxT Kf) (iz (zT r) xs) (iz zI n) K := fun F H v w ok hv hw Q q => by
  obtain ⟨a, vs, rfl, h2, h3⟩ := hv
  obtain ⟨u, h4, h5⟩ := pvs_at h3 e
  exact ⟨a, vs, n, u, rfl, hw, SqT.of (ok.fh _ _ h2), h4, q.go k ok h5⟩
/-- x[0], x[1] of a pair; x[0], x[1], x[2] of a triple -/
theorem ops_ix20 {Kf : PySem.W.Frag} {α β : Type} {r : Rep α} {s : Rep β} {x : α × β} (k : K (iz r x.1) Θ) : Ops fr Θ (rIxT Kf) (iz (z2 r s) x) (iz zI 0) K := fun F H v w ok hv hw Q q => by
  obtain ⟨a, u, z, rfl, h2, h3, h4⟩ := hv
  exact ⟨a, _, 0, u, rfl, hw, SqT.of (ok.fh _ _ h2), rfl, q.go k ok h3⟩
theorem ops_ix21 {Kf : PySem.W.Frag} {α β : Type} {r : Rep α} {s : Rep β} {x : α × β} (k : K (iz s x.2) Θ) : Ops fr Θ (rIxT Kf) (iz (z2 r s) x) (iz zI 1) K := fun F H v w ok hv hw Q q => by
  obtain ⟨a, u, z, rfl, h2, h3, h4⟩ := hv
  exact ⟨a, _, 1, z, rfl, hw, SqT.of (ok.fh _ _ h2), rfl, q.go k ok h4⟩
theorem ops_ix30 {Kf : PySem.W.Frag} {α β γ : Type} {r : Rep α} {s : Rep β} {t : Rep γ} {x : α × β × γ} (k : K (iz r x.1) Θ) : Ops fr Θ (rIxT Kf) (iz (z3 r s t) x) (iz zI 0) K := fun F H v w ok hv hw Q q => by
  obtain ⟨a, u, z, y, rfl, h2, h3, h4, h5⟩ := hv
  exact ⟨a, _, 0, u, rfl, hw, SqT.of (ok.fh _ _ h2), rfl, q.go k ok h3⟩
theorem ops_ix31 {Kf : PySem.W.Frag} {α β γ : Type} {r : Rep α} {s : Rep β} {t : Rep γ} {x : α × β × γ} (k : K (iz s x.2.1) Θ) : Ops fr Θ (rIxT Kf) (iz (z3 r s t) x) (iz zI 1) K := fun F H v w ok hv hw Q q => by
  obtain ⟨a, u, z, y, rfl, h2, h3, h4, h5⟩ := hv
  exact ⟨a, _, 1, z, rfl, hw, SqT.of (ok.fh _ _ h2), rfl, q.go k ok h4⟩
theorem ops_ix32 {Kf : PySem.W.Frag} {α β γ : Type} {r : Rep α} {s : Rep β} {t : Rep γ} {x : α × β × γ} (k : K (iz t x.2.2) Θ) : Ops fr Θ (rIxT Kf) (iz (z3 r s t) x) (iz zI 2) K := fun F H v w ok hv hw Q q => by
  obtain ⟨a, u, z, y, rfl, h2, h3, h4, h5⟩ := hv
  exact ⟨a, _, 2, y, rfl, hw, SqT.of (ok.fh _ _ h2), rfl, q.go k ok h5⟩
/-- either kind of subscript -/
theorem ops_ix {Kf : PySem.W.Frag} {p q : Vp} (h : Ops fr Θ (rIxL Kf) p q K ∨ Ops fr Θ (rIxT Kf) p q K ∨ Ops fr Θ rIxS p q K) : Ops fr Θ (rIx Kf) p q K := fun F H v w ok hv hw Q k =>
  h.elim (fun h => .inl (h F H v w ok hv hw Q k)) fun h => .inr (h.elim (fun h => .inl (h F H v w ok hv hw Q k)) fun h => .inr (h F H v w ok hv hw Q k))
theorem ops_ixS {z : Str} {n : Int} {c : Nat} (hl : z.length ≤ sizeLine) (e : atI z.cps.toList n = some c) (k : K (iz zS ⟨#[c]⟩) Θ) : Ops fr Θ rIxS (iz zS z) (iz zI n) K := fun F H v w ok hv hw Q q => by
  obtain ⟨hv, ha⟩ := hv
  refine ⟨z, n, c, hv, hw, hl, e, q.go k ok ⟨rfl, Asc.one (ha c ?_)⟩⟩
  unfold atI at e
  cases j : ixN z.cps.toList.length n with
  | none => rw [j] at e; cases e
  | some j' =>
    rw [j] at e
    exact List.mem_of_getElem? e
/-! displays -/
def TupR (ps : List Vp) (q : Vp) : Prop := ∀ F a vs, F a = some (HO.tup vs) → Paired (fun (p : Vp) v => p.p F v) ps vs → q.p F (.ref a)
theorem small_len {α β : Type} {R : α → β → Prop} {l : List α} {m : List β} (h : Paired R l m) (hl : l.length ≤ 1000) : m.length ≤ sizeLine := by
  rw [← Paired.len h]
  exact Nat.le_of_lt (small1000 hl)
theorem ps_mono {ps : List Vp} {vs : List V} (e : Same F F') (h : Paired (fun (p : Vp) v => p.p F v) ps vs) : Paired (fun (p : Vp) v => p.p F' v) ps vs := Paired.imp2 (fun p _ h => p.mono e h) h
theorem we_tup {t : TA} (w : Wa fr Γ Θ t fun ps Θ1 => ps.length ≤ 1000 ∧ ∃ q, TupR ps q ∧ K q Θ1) : We fr Γ Θ (tTup t) K := fun σ F H ok env Q q =>
  w σ F H ok env _ fun ps Θ1 ⟨hl, p, tr, k⟩ vs F1 H1 s1 ok1 hps => ⟨small_len hps hl, fun a na => (q.mono s1).new k ok1 na (tr _ a vs upd_same (ps_mono (ok1.sameF na) hps))⟩
theorem tr2 {α β : Type} {r : Rep α} {s : Rep β} {x : α} {y : β} : TupR [iz r x, iz s y] (iz (z2 r s) (x, y)) := fun F a vs h hp => by
  cases hp with
  | cons h1 hp => cases hp with
    | cons h2 hp => cases hp with
      | nil => exact ⟨a, _, _, rfl, h, h1, h2⟩
theorem tr3 {α β γ : Type} {r : Rep α} {s : Rep β} {t : Rep γ} {x : α} {y : β} {z : γ} : TupR [iz r x, iz s y, iz t z] (iz (z3 r s t) (x, y, z)) := fun F a vs h hp => by
  cases hp with
  | cons h1 hp => cases hp with
    | cons h2 hp => cases hp with
      | cons h3 hp => cases hp with
        | nil => exact ⟨a, _, _, _, rfl, h, h1, h2, h3⟩
theorem pvs_map {α : Type} {r : Rep α} {vs : List V} : ∀ {xs : List α}, Paired (fun (p : Vp) v => p.p F v) (xs.map (iz r)) vs → PVs r F vs xs := fun {xs} h => by
  induction xs generalizing vs with
  | nil => cases h; exact .nil
  | cons x xs ih => cases h with
    | cons a b => exact .cons a (ih b)
theorem trT {α : Type} {r : Rep α} (xs : List α) : TupR (xs.map (iz r)) (iz (zT r) xs) := fun F a vs h hp => ⟨a, vs, rfl, h, pvs_map hp⟩
/-- a list, frozen -/
theorem we_lst {α : Type} {r : Rep α} {t : TA} (w : Wa fr Γ Θ t fun ps Θ1 => ∃ xs : List α, ps = xs.map (iz r) ∧ ps.length ≤ 1000 ∧ K (iz (zL r) xs) Θ1) : We fr Γ Θ (tLst t) K := fun σ F H ok env Q q =>
  w σ F H ok env _ fun ps Θ1 ⟨xs, e, hl, k⟩ vs F1 H1 s1 ok1 hps => ⟨small_len hps hl, fun a na => by
    subst e
    exact (q.mono s1).new k ok1 na ⟨a, vs, rfl, upd_same, pvs_map (ps_mono (ok1.sameF na) hps)⟩⟩
/-- a list, one's own -/
theorem we_own {α : Type} (r : Rep α) {t : TA} (w : Wa fr Γ Θ t fun ps Θ1 => ∃ xs : List α, ps = xs.map (iz r) ∧ ps.length ≤ 1000 ∧ ∀ a, K (zAt a) (cL a r xs :: Θ1)) : We fr Γ Θ (tLst t) K := fun σ F H ok env Q q =>
  w σ F H ok env _ fun ps Θ1 ⟨xs, e, hl, k⟩ vs F1 H1 s1 ok1 hps => ⟨small_len hps hl, fun a na => by
    subst e
    exact q _ _ (k a) _ F1 _ s1 (ok1.mkOwn (c := cL a r xs) na rfl ⟨vs, rfl, pvs_map hps⟩) rfl⟩
/-! built-in calls -/
theorem cb_len {Kf : PySem.W.Frag} {α : Type} {r : Rep α} {xs : List α} {p : Vp} (h : SeqP fr Θ p r xs) (k : K (iz zI xs.length) Θ) : Cbs fr Θ (rLenQ Kf) [p] K := fun F H vs ok hps Q q => by
  cases hps with
  | cons h1 hp => cases hp with
    | nil =>
      obtain ⟨a, us, rfl, h2, h3⟩ := h F H _ ok h1
      refine ⟨a, us, rfl, sq_or h2, ?_⟩
      rw [Paired.len h3]
      exact q.go k ok rfl
theorem cb_lenS {z : Str} (hl : z.length ≤ sizeLine) (k : K (iz zI z.length) Θ) : Cbs fr Θ (fun xs H Q => ∃ z, xs = [.str z] ∧ z.length ≤ sizeLine ∧ Q (.int z.length) H) [iz zS z] K := fun F H vs ok hps Q q => by
  cases hps with
  | cons h1 hp => cases hp with
    | nil => exact ⟨z, by rw [h1.1], hl, q.go k ok rfl⟩
theorem cb_list {Kf : PySem.W.Frag} {α : Type} {r : Rep α} {xs : List α} {p : Vp} (h : SeqP fr Θ p r xs) (k : K (iz (zL r) xs) Θ) : Cbs fr Θ (rListQ Kf) [p] K := fun F H vs ok hps Q q => by
  cases hps with
  | cons h1 hp => cases hp with
    | nil =>
      obtain ⟨a, us, rfl, h2, h3⟩ := h F H _ ok h1
      exact ⟨a, us, rfl, sq_or h2, fun l nl => q.new k ok nl ⟨l, us, rfl, upd_same, Paired.imp2 (fun _ _ h => r.mono (ok.sameF nl) h) h3⟩⟩
theorem cb_tuple {Kf : PySem.W.Frag} {α : Type} {r : Rep α} {xs : List α} {p : Vp} (h : ∀ F H v, OkF fr Θ F H → p.p F v → ∃ a vs, v = .ref a ∧ (H a = some (.lst vs) ∨ F a = some (.tup vs)) ∧ PVs r F vs xs) (k : K (iz (zT r) xs) Θ) : Cbs fr Θ (rTupQ Kf) [p] K := fun F H vs ok hps Q q => by
  cases hps with
  | cons h1 hp => cases hp with
    | nil =>
      obtain ⟨a, us, rfl, h2, h3⟩ := h F H _ ok h1
      refine ⟨a, us, rfl, ?_⟩
      rcases h2 with h2 | h2
      · exact .inl ⟨SqL.of h2, fun l nl => q.new k ok nl ⟨l, us, rfl, upd_same, Paired.imp2 (fun _ _ h => r.mono (ok.sameF nl) h) h3⟩⟩
      · exact .inr ⟨SqT.of (ok.fh _ _ h2), q.go k ok ⟨a, us, rfl, h2, h3⟩⟩
theorem cb_tupleL {Kf : PySem.W.Frag} {α : Type} {r : Rep α} {xs : List α} (k : K (iz (zT r) xs) Θ) : Cbs fr Θ (rTupQ Kf) [iz (zL r) xs] K := cb_tuple (fun F H v ok ⟨a, vs, h1, h2, h3⟩ => ⟨a, vs, h1, .inl (ok.fh _ _ h2), h3⟩) k
theorem cb_tupleT {Kf : PySem.W.Frag} {α : Type} {r : Rep α} {xs : List α} (k : K (iz (zT r) xs) Θ) : Cbs fr Θ (rTupQ Kf) [iz (zT r) xs] K := cb_tuple (fun F H v ok ⟨a, vs, h1, h2, h3⟩ => ⟨a, vs, h1, .inr h2, h3⟩) k
theorem cb_tupleC {Kf : PySem.W.Frag} {α : Type} {r : Rep α} {xs : List α} {a : Addr} (hc : cL a r xs ∈ Θ) (k : K (iz (zT r) xs) Θ) : Cbs fr Θ (rTupQ Kf) [zAt a] K := cb_tuple (fun F H v ok hv => by
  obtain ⟨_, ⟨o, h2, vs, rfl, h4⟩, _⟩ := ok.ce _ hc
  exact ⟨a, vs, hv, .inl h2, h4⟩) k
theorem cb_any {Kf : PySem.W.Frag} {xs : List Bool} (k : K (iz zB (xs.any id)) Θ) : Cbs fr Θ (rAny Kf) [iz (zL zB) xs] K := fun F H vs ok hps Q q => by
  cases hps with
  | cons h1 hp => cases hp with
    | nil =>
      obtain ⟨a, us, rfl, h2, h3⟩ := h1
      have := pvs_B h3
      subst this
      exact ⟨a, xs, rfl, SqL.of (ok.fh _ _ h2), q.go k ok rfl⟩
theorem cb_all {Kf : PySem.W.Frag} {xs : List Bool} (k : K (iz zB (xs.all id)) Θ) : Cbs fr Θ (rAll Kf) [iz (zL zB) xs] K := fun F H vs ok hps Q q => by
  cases hps with
  | cons h1 hp => cases hp with
    | nil =>
      obtain ⟨a, us, rfl, h2, h3⟩ := h1
      have := pvs_B h3
      subst this
      exact ⟨a, xs, rfl, SqL.of (ok.fh _ _ h2), q.go k ok rfl⟩
theorem cb_sum {Kf : PySem.W.Frag} {xs : List Int} (k : K (iz zI xs.sum) Θ) : Cbs fr Θ (rSum Kf) [iz (zL zI) xs] K := fun F H vs ok hps Q q => by
  cases hps with
  | cons h1 hp => cases hp with
    | nil =>
      obtain ⟨a, us, rfl, h2, h3⟩ := h1
      have := pvs_I h3
      subst this
      exact ⟨a, xs, rfl, SqL.of (ok.fh _ _ h2), q.go k ok rfl⟩
theorem cb_int {n : Int} (k : K (iz zI n) Θ) : Cbs fr Θ (fun xs H Q => (∃ i, xs = [.int i] ∧ Q (.int i) H) ∨ ∃ k, xs = [.bl k] ∧ Q (.int (if k then 1 else 0)) H) [iz zI n] K := fun F H vs ok hps Q q => by
  cases hps with
  | cons h1 hp => cases hp with
    | nil =>
      have h1 : _ = V.int n := h1
      subst h1
      exact .inl ⟨n, rfl, q.go k ok rfl⟩
theorem cb_abs {n : Int} (k : K (iz zI (if n < 0 then -n else n)) Θ) : Cbs fr Θ (fun xs H Q => ∃ i, xs = [.int i] ∧ Q (.int (if i < 0 then -i else i)) H) [iz zI n] K := fun F H vs ok hps Q q => by
  cases hps with
  | cons h1 hp => cases hp with
    | nil =>
      have h1 : _ = V.int n := h1
      subst h1
      exact ⟨n, rfl, q.go k ok rfl⟩
/-! slices, + -/
def cutX {α : Type} (xs : List α) (lo hi : Option Int) : List α := (xs.drop (HT.sIx xs.length 0 lo)).take (HT.sIx xs.length xs.length hi - HT.sIx xs.length 0 lo)
theorem pvs_cut {α : Type} {r : Rep α} {vs : List V} {xs : List α} {lo hi : Option Int} (h : PVs r F vs xs) : PVs r F (cutV vs lo hi) (cutX xs lo hi) := by
  unfold cutV cutX
  rw [Paired.len h]
  exact Paired.take _ (Paired.drop _ h)
theorem sls_L {Kf : PySem.W.Frag} {α : Type} {r : Rep α} {xs : List α} {lo hi : Option Int} (k : K (iz (zL r) (cutX xs lo hi)) Θ) : Sls fr Θ (rSlL Kf) (iz (zL r) xs) lo hi K := fun F H v ok hv Q q => by
  obtain ⟨a, vs, rfl, h2, h3⟩ := hv
  exact ⟨a, vs, rfl, SqL.of (ok.fh _ _ h2), fun l nl => q.new k ok nl ⟨l, _, rfl, upd_same, Paired.imp2 (fun _ _ h => r.mono (ok.sameF nl) h) (pvs_cut h3)⟩⟩
theorem ops_cat {α : Type} {r : Rep α} {xs ys : List α} (hl : xs.length + ys.length ≤ sizeLine) (k : K (iz (zL r) (xs ++ ys)) Θ) : Ops fr Θ rCat (iz (zL r) xs) (iz (zL r) ys) K := fun F H v w ok hv hw Q q => by
  obtain ⟨a, vs, rfl, h2, h3⟩ := hv
  obtain ⟨b, us, rfl, h4, h5⟩ := hw
  exact ⟨a, b, vs, us, rfl, rfl, ok.fh _ _ h2, ok.fh _ _ h4, by rw [Paired.len h3, Paired.len h5]; exact hl, fun l nl => q.new k ok nl ⟨l, _, rfl, upd_same, Paired.imp2 (fun _ _ h => r.mono (ok.sameF nl) h) (Paired.app h3 h5)⟩⟩
/-! ### walked things -/
def Newer (F H F' : Hp) : Prop := ∀ a o, F' a = some o → Nwr F H a o
theorem Newer.refl (F H : Hp) : Newer F H F := fun _ o h => .inl ⟨o, h⟩
/-- the iterator J gives the things its, as long as F stands -/
def JOk (J : It) (F : Hp) (its : List Vp) : Prop := ∀ F1 H1, Same F F1 → Same F1 H1 → (∀ i p, its[i]? = some p → J.go i H1 ∧ ∀ x H2, J.yld i H1 x H2 → ∃ F2, Same F1 F2 ∧ Same H1 H2 ∧ Same F2 H2 ∧ Newer F1 H1 F2 ∧ p.p F2 x) ∧ J.stop its.length H1
def Wi (fr : Fr) (Γ : Gam) (Θ : List Cel) (wi : TI) (K : List Vp → List Cel → Prop) : Prop := ∀ σ F H, OkF fr Θ F H → EnvF Γ σ F → ∀ R : It → Hp → Prop, (∀ its Θ', K its Θ' → ∀ J F' H', Same F F' → OkF fr Θ' F' H' → JOk J F' its → R J H') → wi σ H R
theorem get_izs {α : Type} {r : Rep α} {xs : List α} {i : Nat} {p : Vp} (h : (xs.map (iz r))[i]? = some p) : ∃ x, xs[i]? = some x ∧ p = iz r x := by
  rw [List.getElem?_map] at h
  obtain ⟨x, hx, e⟩ := Option.map_eq_some_iff.mp h
  exact ⟨x, hx, e.symm⟩
theorem wi_list {Kf : PySem.W.Frag} {tl : TE} {K : List Vp → List Cel → Prop} (w : We fr Γ Θ tl fun p Θ1 => ∃ (α : Type) (r : Rep α) (xs : List α), p = iz (zL r) xs ∧ K (xs.map (iz r)) Θ1) : Wi fr Γ Θ (iList Kf tl) K := fun σ F H ok env R q =>
  w σ F H ok env _ fun p Θ1 ⟨α, r, xs, e, k⟩ v F1 H1 s1 ok1 hp => by
    subst e
    obtain ⟨a, vs, rfl, h2, h3⟩ := hp
    refine ⟨a, rfl, ⟨_, SqL.of (ok1.fh _ _ h2)⟩, q _ Θ1 k _ F1 H1 s1 ok1 fun F2 H2 s2 fh => ⟨fun i p hi => ?_, ?_⟩⟩
    · obtain ⟨x, hx, rfl⟩ := get_izs hi
      obtain ⟨u, hu, hux⟩ := Paired.get' h3 hx
      have sq : SqL Kf H2 a vs := SqL.of (fh _ _ (s2 _ _ h2))
      refine ⟨⟨vs, u, sq, hu⟩, fun y H3 ⟨e, hy⟩ => ?_⟩
      subst e
      have hy := hy vs sq
      rw [hu] at hy
      cases hy
      exact ⟨F2, Same.refl _, Same.refl _, fh, Newer.refl _ _, r.mono s2 hux⟩
    · rw [List.length_map, ← Paired.len h3]
      exact ⟨vs, SqL.of (fh _ _ (s2 _ _ h2)), Nat.le_refl _⟩
theorem wi_tup {Kf : PySem.W.Frag} {tl : TE} {K : List Vp → List Cel → Prop} (w : We fr Γ Θ tl fun p Θ1 => ∃ (α : Type) (r : Rep α) (xs : List α), p = iz (zT r) xs ∧ K (xs.map (iz r)) Θ1) : Wi fr Γ Θ (iTup Kf tl) K := fun σ F H ok env R q =>
  w σ F H ok env _ fun p Θ1 ⟨α, r, xs, e, k⟩ v F1 H1 s1 ok1 hp => by
    subst e
    obtain ⟨a, vs, rfl, h2, h3⟩ := hp
    refine ⟨a, rfl, ⟨_, SqT.of (ok1.fh _ _ h2)⟩, q _ Θ1 k _ F1 H1 s1 ok1 fun F2 H2 s2 fh => ⟨fun i p hi => ?_, ?_⟩⟩
    · obtain ⟨x, hx, rfl⟩ := get_izs hi
      obtain ⟨u, hu, hux⟩ := Paired.get' h3 hx
      have sq : SqT Kf H2 a vs := SqT.of (fh _ _ (s2 _ _ h2))
      refine ⟨⟨vs, u, sq, hu⟩, fun y H3 ⟨e, hy⟩ => ?_⟩
      subst e
      have hy := hy vs sq
      rw [hu] at hy
      cases hy
      exact ⟨F2, Same.refl _, Same.refl _, fh, Newer.refl _ _, r.mono s2 hux⟩
    · rw [List.length_map, ← Paired.len h3]
      exact ⟨vs, SqT.of (fh _ _ (s2 _ _ h2)), Nat.le_refl _⟩
def intsF (lo : Int) (n : Nat) : List Int := (List.range n).map fun i : Nat => lo + (i : Int)
theorem intsF_get {lo : Int} {n i : Nat} {x : Int} (h : (intsF lo n)[i]? = some x) : i < n ∧ x = lo + i := by
  unfold intsF at h
  rw [List.getElem?_map] at h
  obtain ⟨j, hj, e⟩ := Option.map_eq_some_iff.mp h
  rcases Nat.lt_or_ge i n with h | h
  · rw [List.getElem?_range h] at hj
    cases hj
    exact ⟨h, e.symm⟩
  · rw [List.getElem?_eq_none (by rw [List.length_range]; exact h)] at hj
    cases hj
theorem intsF_len (lo : Int) (n : Nat) : (intsF lo n).length = n := by
  unfold intsF
  rw [List.length_map, List.length_range]
theorem jok_r (lo : Int) (n : Nat) : JOk (Itr lo n) F ((intsF lo n).map (iz zI)) := fun F2 H2 s2 fh => ⟨fun i p hi => by
    obtain ⟨x, hx, rfl⟩ := get_izs hi
    obtain ⟨h1, rfl⟩ := intsF_get hx
    exact ⟨h1, fun y H3 ⟨e, hy⟩ => by
      subst e
      exact ⟨F2, Same.refl _, Same.refl _, fh, Newer.refl _ _, hy⟩⟩, by
    rw [List.length_map, intsF_len]
    exact Nat.le_refl _⟩
theorem wi_range {ta : TA} {K : List Vp → List Cel → Prop} (w : Wa fr Γ Θ ta fun ps Θ1 => ∃ n : Int, ps = [iz zI n] ∧ -(2 ^ 62) ≤ n ∧ n < 2 ^ 62 ∧ K ((intsF 0 n.toNat).map (iz zI)) Θ1) : Wi fr Γ Θ (iRng1 ta) K := fun σ F H ok env R q =>
  w σ F H ok env _ fun ps Θ1 ⟨n, e, b1, b2, k⟩ vs F1 H1 s1 ok1 hps => by
    subst e
    cases hps with
    | cons h1 hp => cases hp with
      | nil =>
        have h1 : _ = V.int n := h1
        subst h1
        exact ⟨n, rfl, b1, b2, q _ Θ1 k _ F1 H1 s1 ok1 (jok_r 0 n.toNat)⟩
theorem wi_range2 {ta : TA} {K : List Vp → List Cel → Prop} (w : Wa fr Γ Θ ta fun ps Θ1 => ∃ m n : Int, ps = [iz zI m, iz zI n] ∧ (-(2 ^ 62) ≤ m ∧ m < 2 ^ 62 ∧ -(2 ^ 62) ≤ n ∧ n < 2 ^ 62) ∧ K ((intsF m (n - m).toNat).map (iz zI)) Θ1) : Wi fr Γ Θ (iRng2 ta) K := fun σ F H ok env R q =>
  w σ F H ok env _ fun ps Θ1 ⟨m, n, e, b, k⟩ vs F1 H1 s1 ok1 hps => by
    subst e
    cases hps with
    | cons h1 hp => cases hp with
      | cons h2 hp => cases hp with
        | nil =>
          have h1 : _ = V.int m := h1
          have h2 : _ = V.int n := h2
          subst h1 h2
          exact ⟨m, n, rfl, b, q _ Θ1 k _ F1 H1 s1 ok1 (jok_r m _)⟩
/-! loops -/
/-- a finer start: more is frozen -/
structure FrLe (fr fr' : Fr) : Prop where
  h : fr'.H0 = fr.H0
  b : fr'.B = fr.B
  f : Same fr.F0 fr'.F0
  n : ∀ a o, fr'.F0 a = some o → Nwr fr.F0 fr.H0 a o
theorem OkF.le {fr' : Fr} (ok : OkF fr' Θ F H) (l : FrLe fr fr') : OkF fr Θ F H := by
  obtain ⟨a1, a2, a3, a4⟩ := l
  refine ⟨ok.fh, a3.trans ok.f0, fun a o h => ?_, fun a o hB h => ok.h0 a o (by rw [a2]; exact hB) (by rw [a1]; exact h), fun a o h => ok.al a o (by rw [a1]; exact h), ok.nd, fun c hc => ?_⟩
  · rcases ok.nw a o h with ⟨o', h'⟩ | h' | h'
    · have e := ok.f0 a o' h'
      rw [h] at e
      cases e
      exact a4 a o h'
    · exact .inr (.inl (by rw [a1] at h'; exact h'))
    · exact .inr (.inr h')
  · have := ok.ce c hc
    rw [a1, a2] at this
    exact this
theorem OkF.fine {F1 H1 : Hp} {Θ1 : List Cel} (ok1 : OkF fr Θ1 F1 H1) : FrLe fr ⟨F1, fr.H0, fr.B⟩ := ⟨rfl, rfl, ok1.f0, ok1.nw⟩
theorem FrLe.trans {fr1 fr2 : Fr} (x : FrLe fr fr1) (y : FrLe fr1 fr2) : FrLe fr fr2 := ⟨y.h.trans x.h, y.b.trans x.b, x.f.trans y.f, fun a o h => (y.n a o h).elim (fun ⟨o', h'⟩ => by
  have e := y.f a o' h'
  rw [h] at e
  cases e
  exact x.n a o h') fun h' => h'.elim (fun h' => .inr (.inl (by rw [x.h] at h'; exact h'))) fun h' => .inr (.inr h')⟩
theorem Kn.fine {fr' : Fr} {P : L2.St → Hp → Prop} (k : Kn fr Γ Θ P) (l : FrLe fr fr') : Kn fr' Γ Θ P := fun σ F H ok env => k σ F H (ok.le l) env
theorem Rt.fine {fr' : Fr} {rt : VK} {p : Vp} (k : Rt fr Θ rt p) (l : FrLe fr fr') : Rt fr' Θ rt p := fun v F H ok h => k v F H (ok.le l) h
theorem kn_for {wi : TI} {g : TG} {tb : TS} {D : Ends} (w : Wi fr Γ Θ wi fun its Θ1 => ∃ I : Nat → Gam → List Cel → Prop, (∃ Γ0, GLe Γ Γ0 ∧ I 0 Γ0 Θ1) ∧
    (∀ fr', FrLe fr fr' → ∀ i p Γ1 Θ2, its[i]? = some p → I i Γ1 Θ2 → ∃ vs Γ2, TgR g vs p Γ1 Γ2 ∧ Kn fr' Γ2 Θ2 (tb { D with nx := Mid fr' (I (i + 1)), ct := Mid fr' (I (i + 1)), bk := D.nx })) ∧ ∀ Γ1 Θ2, I its.length Γ1 Θ2 → Kn fr Γ1 Θ2 D.nx) : Kn fr Γ Θ (tFor wi g tb D) := fun σ F H ok env =>
  w σ F H ok env _ fun its Θ1 ⟨I, ⟨Γ0, l0, i0⟩, hs, hd⟩ J F1 H1 s1 ok1 jok => by
    have le := ok1.fine
    have up : ∀ {Θ2 : List Cel} {F2 H2 : Hp}, OkF fr Θ2 F2 H2 → Same F1 F2 → OkF ⟨F1, fr.H0, fr.B⟩ Θ2 F2 H2 := fun ok s => ⟨ok.fh, s, fun a o h => (ok.nw a o h).elim (fun ⟨o', h'⟩ => .inl ⟨o', ok1.f0 _ _ h'⟩) .inr, ok.h0, ok.al, ok.nd, ok.ce⟩
    refine ⟨fun i m σ' H' => m = its.length - i ∧ i ≤ its.length ∧ Mid ⟨F1, fr.H0, fr.B⟩ (I i) σ' H', ⟨its.length, by simp, Nat.zero_le _, Γ0, Θ1, F1, i0, up ok1 (Same.refl _), (env.mono s1).le l0⟩, ?_⟩
    rintro i m σ' H' ⟨rfl, hi, Γ2, Θ2, F2, hI, ok2, env2⟩
    obtain ⟨j1, j2⟩ := jok F2 H' ok2.f0 ok2.fh
    by_cases hlt : i < its.length
    · obtain ⟨jg, jy⟩ := j1 i its[i] (List.getElem?_eq_getElem hlt)
      refine .inr ⟨jg, Mid ⟨F1, fr.H0, fr.B⟩ (I (i + 1)), fun σ3 H3 p => ⟨its.length - (i + 1), by omega, rfl, hlt, p⟩, fun x H3 y => ?_⟩
      obtain ⟨F3, e1, e2, e3, e4, e5⟩ := jy x H3 y
      have ok3 := ok2.grow e2 e1 e3 e4
      obtain ⟨vs, Γ4, tg, kn⟩ := hs _ le i _ Γ2 Θ2 (List.getElem?_eq_getElem hlt) hI
      exact tg σ' F3 H3 x ok3.fh (env2.mono e1) e5 _ fun σ4 env4 _ => kn σ4 F3 H3 ok3 env4
    · have e : i = its.length := by omega
      subst e
      exact .inl ⟨j2, hd Γ2 Θ2 hI σ' F2 H' (ok2.le le) env2⟩
/-- an invariant by a state s: the names hold G s, the cells T s -/
def InvS {S : Type} (G : S → Gam) (T : S → List Cel) (P : Nat → S → Prop) (i : Nat) (Γ : Gam) (Θ : List Cel) : Prop := ∃ s, P i s ∧ Γ = G s ∧ Θ = T s
theorem kn_back {S : Type} {G : S → Gam} {T : S → List Cel} {P : Nat → S → Prop} {i : Nat} (s : S) (l : GLe Γ (G s)) (h : P i s) (e : Θ = T s) : Kn fr Γ Θ (Mid fr (InvS G T P i)) := kn_mid ⟨G s, l, s, h, rfl, e⟩
/-- for x in a walked thing, the entries xs known -/
theorem kn_forS {α S : Type} {r : Rep α} {xs : List α} {wi : TI} {g : TG} {tb : TS} {D : Ends} (G : S → Gam) (T : S → List Cel) (P : Nat → S → Prop) (s0 : S) {vs : List Nat} {Γ2 : α → S → Gam} (it : Wi fr Γ Θ wi fun its Θ1 => its = xs.map (iz r) ∧ Θ1 = T s0) (l0 : GLe Γ (G s0)) (h0 : P 0 s0)
    (tg : ∀ x s, TgR g vs (iz r x) (G s) (Γ2 x s))
    (hs : ∀ fr', FrLe fr fr' → ∀ i x s, xs[i]? = some x → P i s → Kn fr' (Γ2 x s) (T s) (tb { D with nx := Mid fr' (InvS G T P (i + 1)), ct := Mid fr' (InvS G T P (i + 1)), bk := D.nx }))
    (hd : ∀ s, P xs.length s → Kn fr (G s) (T s) D.nx) : Kn fr Γ Θ (tFor wi g tb D) := by
  refine kn_for fun σ F H ok env R q => it σ F H ok env R fun its Θ1 ⟨e1, e2⟩ => q its Θ1 ?_
  subst e1 e2
  refine ⟨InvS G T P, ⟨G s0, l0, s0, h0, rfl, rfl⟩, fun fr' le i p Γ1 Θ2 hi ⟨s, hP, eg, et⟩ => ?_, fun Γ1 Θ2 ⟨s, hP, eg, et⟩ => ?_⟩
  · subst eg et
    obtain ⟨x, hx, rfl⟩ := get_izs hi
    exact ⟨vs, _, tg x s, hs fr' le i x s hx hP⟩
  · subst eg et
    rw [List.length_map] at hP
    exact hd s hP
/-! while -/
theorem kn_while {S : Type} {c : TT} {tb : TS} {D : Ends} (G : S → Gam) (T : S → List Cel) (P : S → Prop) (μ : S → Nat) (s0 : S) (l0 : GLe Γ (G s0)) (e0 : Θ = T s0) (h0 : P s0)
    (hs : ∀ s, P s → ∃ b : Bool, Et fr (G s) (T s) c b ∧ (b = true → Kn fr (G s) (T s) (tb { D with nx := Mid fr (InvS G T (fun m s' => P s' ∧ μ s' < m) (μ s)), ct := Mid fr (InvS G T (fun m s' => P s' ∧ μ s' < m) (μ s)), bk := D.nx })) ∧ (b = false → Kn fr (G s) (T s) D.nx)) : Kn fr Γ Θ (tWhile c tb D) := fun σ F H ok env => by
  subst e0
  refine ⟨fun m σ' H' => ∃ s F', P s ∧ m = μ s ∧ OkF fr (T s) F' H' ∧ EnvF (G s) σ' F', ⟨μ s0, s0, F, h0, rfl, ok, env.le l0⟩, ?_⟩
  rintro m σ1 H1 ⟨s, F1, hP, rfl, ok1, env1⟩
  obtain ⟨b, hb, h1, h2⟩ := hs s hP
  refine hb σ1 F1 H1 ok1 env1 _ fun b' Θ' ⟨e1, e2⟩ F2 H2 s2 ok2 => ?_
  subst e1 e2
  cases b' with
  | true =>
    rw [if_pos rfl]
    refine ⟨_, ?_, h1 rfl σ1 F2 H2 ok2 (env1.mono s2)⟩
    rintro σ3 H3 ⟨Γ3, Θ3, F3, ⟨s3, ⟨hP3, lt⟩, rfl, rfl⟩, ok3, env3⟩
    exact ⟨μ s3, lt, s3, F3, hP3, rfl, ok3, env3⟩
  | false =>
    rw [if_neg Bool.false_ne_true]
    exact h2 rfl σ1 F2 H2 ok2 (env1.mono s2)
/-! comprehensions -/
def wipeG (Γ : Gam) : List Nat → Gam
  | [] => Γ
  | v :: vs => (wipeG Γ vs).set v none
theorem EnvF.wipe {σ : L2.St} (h : EnvF Γ σ F) : ∀ vs, EnvF (wipeG Γ vs) (L2.wipe σ vs) F
  | [] => h
  | v :: vs => (EnvF.wipe h vs).drop
theorem wipe_get (σ : L2.St) (j : Nat) : ∀ vs : List Nat, (L2.wipe σ vs)[j]? = if j ∈ vs ∧ j < σ.length then some none else σ[j]?
  | [] => by simp [L2.wipe]
  | v :: vs => by
    unfold L2.wipe
    rw [List.getElem?_set, wipe_get σ j vs, wipe_length]
    by_cases h : v = j
    · subst h
      by_cases h2 : v < σ.length
      · rw [if_pos rfl, if_pos h2, if_pos ⟨List.mem_cons_self .., h2⟩]
      · rw [if_pos rfl, if_neg h2, if_neg (fun q => h2 q.2), List.getElem?_eq_none (by omega)]
    · rw [if_neg h]
      by_cases h2 : j ∈ vs ∧ j < σ.length
      · rw [if_pos h2, if_pos ⟨List.mem_cons_of_mem _ h2.1, h2.2⟩]
      · rw [if_neg h2, if_neg (fun q => h2 ⟨(List.mem_cons.mp q.1).resolve_left (fun e => h e.symm), q.2⟩)]
theorem wipe_idem (σ : L2.St) (vs : List Nat) : L2.wipe (L2.wipe σ vs) vs = L2.wipe σ vs := by
  apply List.ext_getElem?
  intro j
  rw [wipe_get, wipe_length, wipe_get]
  split <;> rfl
/-- [e for x in xs if c]: each entry is found by its own way; R says what it may be -/
theorem we_lcR {α β : Type} {r : Rep α} {s : Rep β} {xs : List α} {pr : α → Bool} {R : α → β → Prop} {wi : TI} {g : TG} {tt : TT} {te : TE} {vs : List Nat} {Γ2 : α → Gam}
    (it : Wi fr Γ Θ wi fun its Θ1 => its = xs.map (iz r) ∧ Θ1 = Θ) (hl : xs.length ≤ 1000) (tg : ∀ x, TgR g vs (iz r x) (wipeG Γ vs) (Γ2 x)) (ht : ∀ x ∈ xs, ∀ c, Et fr (Γ2 x) (c :: Θ) tt (pr x))
    (he : ∀ x ∈ xs, pr x = true → ∀ c, We fr (Γ2 x) (c :: Θ) te fun q Θ' => Θ' = c :: Θ ∧ ∃ y, R x y ∧ q = iz s y) (k : ∀ ys, Paired R (xs.filter pr) ys → K (iz (zL s) ys) Θ) : We fr Γ Θ (tLc wi g tt te vs) K := fun σ F H ok env Q q => by
  refine it σ F H ok env _ fun its Θ1 ⟨e1, e2⟩ J F1 H1 s1 ok1 jok => ?_
  subst e1 e2
  intro D nD
  refine ⟨fun i m H' => m = xs.length - i ∧ i ≤ xs.length ∧ ∃ F2 ys, Same F1 F2 ∧ OkF fr (cL D s ys :: Θ1) F2 H' ∧ Paired R ((xs.take i).filter pr) ys, ⟨xs.length, by simp, Nat.zero_le _, F1, [], Same.refl _, ok1.mkOwn (c := cL D s []) nD rfl ⟨[], rfl, .nil⟩, .nil⟩, ?_⟩
  rintro i m H' ⟨rfl, hi, F2, ys, s2, ok2, py⟩
  obtain ⟨j1, j2⟩ := jok F2 H' s2 ok2.fh
  by_cases hlt : i < xs.length
  · have hx : xs[i]? = some xs[i] := List.getElem?_eq_getElem hlt
    generalize xs[i] = x at hx
    have hm := List.mem_of_getElem? hx
    obtain ⟨jg, jy⟩ := j1 i (iz r x) (by rw [List.getElem?_map, hx]; rfl)
    refine .inr ⟨jg, fun H3 => ∃ F3 ys, Same F1 F3 ∧ OkF fr (cL D s ys :: Θ1) F3 H3 ∧ Paired R ((xs.take (i + 1)).filter pr) ys, fun H3 p => ⟨xs.length - (i + 1), by omega, rfl, hlt, p⟩, fun v H3 y => ?_⟩
    obtain ⟨F3, e1, e2, e3, e4, e5⟩ := jy v H3 y
    have ok3 := ok2.grow e2 e1 e3 e4
    have s3 := s2.trans e1
    refine tg x (L2.wipe σ vs) F3 H3 v ok3.fh ((env.mono (s1.trans s3)).wipe vs) e5 _ fun σ2 env2 hw => ⟨?_, ?_⟩
    · rw [hw, wipe_idem]
    · have et : (xs.take (i + 1)).filter pr = (xs.take i).filter pr ++ if pr x = true then [x] else [] := by
        rw [take_more hx, List.filter_append, List.filter_cons]
        rfl
      refine ht x hm _ σ2 F3 H3 ok3 env2 _ fun b Θ2 ⟨e6, e7⟩ F4 H4 s4 ok4 => ?_
      subst e6 e7
      by_cases hb : pr x = true
      · rw [if_pos hb]
        rw [if_pos hb] at et
        refine he x hm hb _ σ2 F4 H4 ok4 (env2.mono s4) _ fun p Θ3 ⟨e8, y, hR, e9⟩ u F5 H5 s5 ok5 hp => ?_
        subst e8 e9
        obtain ⟨_, ⟨o, h2, acc, rfl, h4⟩, _⟩ := ok5.ce _ (List.mem_cons_self ..)
        have ok6 := ok5.mut (i := 0) (c := cL D s ys) (c' := cL D s (ys ++ [y])) (o := .lst (acc ++ [u])) rfl rfl rfl ⟨_, rfl, PySem.Paired.snoc h4 hp⟩
        refine ⟨acc, h2, ?_, F5, ys ++ [y], (s3.trans s4).trans s5, ok6, ?_⟩
        · rw [Paired.len h4, ← Paired.len py]
          have := List.length_filter_le pr (xs.take i)
          rw [List.length_take] at this
          exact small1000 (by omega)
        · rw [et]
          exact PySem.Paired.snoc py hR
      · rw [if_neg hb]
        rw [if_neg hb, List.append_nil] at et
        exact ⟨F4, ys, s3.trans s4, ok4, by rw [et]; exact py⟩
  · have e : i = xs.length := by omega
    subst e
    rw [List.take_length] at py
    obtain ⟨_, ⟨o, h2, acc, rfl, h4⟩, _⟩ := ok2.ce _ (List.mem_cons_self ..)
    have ok3 := ok2.frz (i := 0) (c := cL D s ys) rfl rfl h2
    have sD : Same F2 (upd F2 D (.lst acc)) := same_upd (ok2.ce _ (List.mem_cons_self ..)).1
    refine .inl ⟨by rw [List.length_map] at j2; exact j2, q _ _ (k ys py) _ _ H' ((s1.trans s2).trans sD) ok3 ⟨D, acc, rfl, upd_same, Paired.imp2 (fun _ _ h => s.mono sD h) h4⟩⟩
theorem paired_map {α β : Type} {f : α → β} : ∀ {xs : List α} {ys : List β}, Paired (fun x y => y = f x) xs ys → ys = xs.map f
  | _, _, .nil => rfl
  | _, _, .cons h r => by rw [h, paired_map r]; rfl
theorem we_lc {α β : Type} {r : Rep α} {s : Rep β} {xs : List α} {pr : α → Bool} {f : α → β} {wi : TI} {g : TG} {tt : TT} {te : TE} {vs : List Nat} {Γ2 : α → Gam}
    (it : Wi fr Γ Θ wi fun its Θ1 => its = xs.map (iz r) ∧ Θ1 = Θ) (hl : xs.length ≤ 1000) (tg : ∀ x, TgR g vs (iz r x) (wipeG Γ vs) (Γ2 x)) (ht : ∀ x ∈ xs, ∀ c, Et fr (Γ2 x) (c :: Θ) tt (pr x))
    (he : ∀ x ∈ xs, pr x = true → ∀ c, Ev fr (Γ2 x) (c :: Θ) te (iz s (f x))) (k : K (iz (zL s) ((xs.filter pr).map f)) Θ) : We fr Γ Θ (tLc wi g tt te vs) K :=
  we_lcR (R := fun x y => y = f x) it hl tg ht (fun x hx hp c => (he x hx hp c).imp fun p Θ' ⟨e1, e2⟩ => ⟨e2, f x, rfl, e1⟩) fun ys h => by
    rw [paired_map h]
    exact k
theorem wt_yes {K : Bool → List Cel → Prop} (k : K true Θ) : Wt fr Γ Θ tYes K := fun σ F H ok env Q q => q true Θ k F H (Same.refl F) ok
end
end L2

set_option Elab.async false
set_option linter.all false
set_option maxRecDepth 100000
set_option maxHeartbeats 4000000
/-! The ground: errors, promises of defs and methods, fields, changes of cells, equality of data. -/
namespace L2
open PySem PySem.Spec PyProof.Rows PySem.HErr
/-- an error: its class, its fields -/
structure Er where
  C : Addr
  fs : List (Str × Vp)
def FsOk (F : Hp) (fs : List (Str × Vp)) (us : List (Str × V)) : Prop := Paired (fun (x : Str × Vp) (y : Str × V) => x.1 = y.1 ∧ x.2.p F y.2) fs us
theorem FsOk.mono {F F' : Hp} {fs : List (Str × Vp)} {us : List (Str × V)} (h : FsOk F fs us) (e : Same F F') : FsOk F' fs us := Paired.imp2 (fun x _ ⟨h1, h2⟩ => ⟨h1, x.2.mono e h2⟩) h
theorem FsOk.look {F : Hp} {f : Str} {p : Vp} : ∀ {fs : List (Str × Vp)} {us : List (Str × V)}, FsOk F fs us → fs.lookup f = some p → ∃ v, us.lookup f = some v ∧ p.p F v
  | _, _, .nil, h => by cases h
  | (a, q) :: fs, (b, u) :: us, .cons ⟨h1, h2⟩ r, h => by
    have h1 : a = b := h1
    subst h1
    rw [List.lookup_cons] at h ⊢
    cases e : (f == a) with
    | true =>
      rw [e] at h
      cases h
      exact ⟨u, rfl, h2⟩
    | false =>
      rw [e] at h
      exact FsOk.look r h
def Kr (fr : Fr) (Γ : Gam) (Θ : List Cel) (W : WX) (e : Er) : Prop := ∀ σ F H, OkF fr Θ F H → EnvF Γ σ F → ∀ d us, F d = some (.xd us) → FsOk F e.fs us → W (.ref e.C) (some d) σ H
/-- what a def raises -/
def Rse (fr : Fr) (E : XK) (err : Er → Prop) : Prop := ∀ e, err e → ∀ Θ F H d us, OkF fr Θ F H → F d = some (.xd us) → FsOk F e.fs us → E (.ref e.C) (some d) H
/-- what a def returns -/
def Ret (fr : Fr) (Q : VK) (out : Vp → Prop) : Prop := ∀ p, out p → ∀ Θ, Rt fr Θ Q p
def Sps (fr : Fr) (Γ : Gam) (Θ : List Cel) (sp : Sp) (E : L2.St → XK) (ps : List Vp) (K : Vp → List Cel → Prop) : Prop := ∀ σ F H vs, OkF fr Θ F H → EnvF Γ σ F → Paired (fun (p : Vp) v => p.p F v) ps vs → ∀ Q, Kq fr F K Q → sp vs H Q (E σ)
section
variable {fr : Fr} {Γ Γ' : Gam} {Θ : List Cel} {F F' H H' : Hp} {K : Vp → List Cel → Prop} {Q : VK}
theorem Rse.fine {fr' : Fr} {E : XK} {err : Er → Prop} (h : Rse fr E err) (l : FrLe fr fr') : Rse fr' E err := fun e he Θ F H d us ok => h e he Θ F H d us (ok.le l)
theorem Ret.fine {fr' : Fr} {out : Vp → Prop} (h : Ret fr Q out) (l : FrLe fr fr') : Ret fr' Q out := fun p hp Θ => (h p hp Θ).fine l
theorem we_callE {sp : Sp} {E : XK} {t : TA} (w : Wa fr Γ Θ t fun ps Θ1 => Sps fr Γ Θ1 sp (fun _ => E) ps K) : We fr Γ Θ (tCall sp [] E t) K := fun σ F H ok env Q q =>
  w σ F H ok env _ fun ps Θ1 k vs F1 H1 s1 ok1 hps => by
    rw [List.append_nil]
    exact k σ F1 H1 vs ok1 (env.mono s1) hps Q (q.mono s1)
theorem we_callS {sp : Sp} {E : L2.St → XK} {t : TA} (w : Wa fr Γ Θ t fun ps Θ1 => Sps fr Γ Θ1 sp E ps K) : We fr Γ Θ (tCallS sp E t) K := fun σ F H ok env Q q =>
  w σ F H ok env _ fun ps Θ1 k vs F1 H1 s1 ok1 hps => k σ F1 H1 vs ok1 (env.mono s1) hps Q (q.mono s1)
/-- an instance of the class at C, m no field of its own -/
def InsP (fr : Fr) (Θ : List Cel) (p : Vp) (C : Addr) (m : Str) : Prop := ∀ F H v, OkF fr Θ F H → p.p F v → ∃ a dx fs, v = .ref a ∧ H a = some (.ins C dx fs) ∧ fs.lookup m = none
theorem we_met {C : Addr} {m : Str} {sp : Sp} {E : L2.St → XK} {ta : TE} {t : TA} (w : We fr Γ Θ ta fun p Θ1 => InsP fr Θ1 p C m ∧ Wa fr Γ Θ1 t fun ps Θ2 => Sps fr Γ Θ2 sp E (p :: ps) K) : We fr Γ Θ (tMetD C m sp E ta t) K := fun σ F H ok env Q q =>
  w σ F H ok env _ fun p Θ1 ⟨ki, k⟩ v F1 H1 s1 ok1 hp => by
    obtain ⟨a, dx, fs, rfl, h2, h3⟩ := ki F1 H1 v ok1 hp
    exact ⟨a, dx, fs, rfl, h2, h3, k σ F1 H1 ok1 (env.mono s1) _ fun ps Θ2 k2 vs F2 H2 s2 ok2 hps => k2 σ F2 H2 _ ok2 ((env.mono s1).mono s2) (.cons (p.mono s2 hp) hps) Q (q.mono (s1.trans s2))⟩
/-! ### promises: pre tells, of the arguments, what may come out and what may be raised -/
def Post (F H : Hp) (Q : VK) (out : Vp → Prop) : Prop := ∀ p, out p → ∀ v F' H', Same H H' → Same F F' → Same F' H' → Newer F H F' → p.p F' v → Q v H'
def PErs (F H : Hp) (E : XK) (err : Er → Prop) : Prop := ∀ e, err e → ∀ F' H' d us, Same H H' → Same F F' → Same F' H' → Newer F H F' → F' d = some (.xd us) → FsOk F' e.fs us → E (.ref e.C) (some d) H'
abbrev Pre := List Vp → (Vp → Prop) → (Er → Prop) → Prop
def spA (pre : Pre) : Sp := fun vs H Q E => ∃ F ps out err, Same F H ∧ Paired (fun (p : Vp) v => p.p F v) ps vs ∧ pre ps out err ∧ Post F H Q out ∧ PErs F H E err
theorem sps_A {pre : Pre} {E : L2.St → XK} {ps : List Vp} {out : Vp → Prop} {err : Er → Prop} (hp : pre ps out err) (k : ∀ p, out p → K p Θ) (x : ∀ e, err e → Kr fr Γ Θ (fun cls d σ H => E σ cls d H) e) : Sps fr Γ Θ (spA pre) E ps K := fun σ F H vs ok env hps Q q =>
  ⟨F, ps, out, err, ok.fh, hps, hp, fun p ho v F' H' hh ff fh nw h => q p Θ (k p ho) v F' H' ff (ok.grow hh ff fh nw) h,
    fun e he F' H' d us hh ff fh nw hd hf => x e he σ F' H' (ok.grow hh ff fh nw) (env.mono ff) d us hd hf⟩
/-- nothing is raised -/
def noErr : Er → Prop := fun _ => False
theorem OkF.post (ok : OkF ⟨F, H, []⟩ Θ F' H') : Same H H' ∧ Same F F' ∧ Same F' H' ∧ Newer F H F' := ⟨fun a o h => ok.h0 a o (by simp) h, ok.f0, ok.fh, ok.nw⟩
theorem Post.ret {out : Vp → Prop} (h : Post F H Q out) : Ret ⟨F, H, []⟩ Q out := fun p hp Θ v F' H' ok hv => by
  obtain ⟨a, b, c, d⟩ := ok.post
  exact h p hp v F' H' a b c d hv
theorem PErs.rse {E : XK} {err : Er → Prop} (h : PErs F H E err) : Rse ⟨F, H, []⟩ E err := fun e he Θ F' H' d us ok hd hf => by
  obtain ⟨a, b, c, n⟩ := ok.post
  exact h e he F' H' d us a b c n hd hf
def envOf (N : List Str) (ps : List Vp) : Gam := ps.map some ++ List.replicate (N.length - ps.length) none
theorem env_start {N : List Str} {ps : List Vp} {vs : List V} (h : Paired (fun (p : Vp) v => p.p F v) ps vs) : EnvF (envOf N ps) (start N vs) F := by
  unfold envOf start
  rw [Paired.len h]
  refine Paired.app ?_ ?_
  · induction h with
    | nil => exact .nil
    | cons a _ ih => exact .cons (fun p hp => by cases hp; exact ⟨_, rfl, a⟩) ih
  · have : ∀ n : Nat, Paired (fun (e : Option Vp) (s : Option V) => ∀ p, e = some p → ∃ v, s = some v ∧ p.p F v) (List.replicate n none) (List.replicate n none) := fun n => by
      induction n with
      | zero => exact .nil
      | succ n ih => exact .cons (fun p hp => by cases hp) ih
    exact this _
end
section
variable {P : Program} {w : World} {K : PySem.W.Frag} {mg : Str → Option Value} {base : Heap} {x m qual : Str} {C : Addr} {st : Stmt} {N ps : List Str} {k : Nat} {pre : Pre}
theorem Src.okA (F : Src K mg x st ps) (S : FnScope N ps (defScope st)) (len : ∀ qs out err, pre qs out err → qs.length = ps.length)
    (hbody : ∀ (f : Addr) (cdv : Value) (A : Around) (outer : List Env) (s : Shared) (H : Hp) (E : XK) (qs : List Vp) (out : Vp → Prop) (err : Er → Prop), Room k (A.deeper (envOfC x (defScope st) s.heap.objs.size f cdv)) → pre qs out err →
      ∃ t, PSs (cxOf CX0 P w K mg base N x (defScope st) f cdv A outer s H E).nox (defBody st) t ∧ ∀ fr Q, Ret fr Q out → Kn fr (envOf N qs) [] (t { nx := fun _ H' => Q .non H', rt := Q })) : Def P w K mg base CX0 (k + 1) x ps (spA pre) := by
  refine F.ok S (fun vs H Q E h => ?_) (fun f cdv A outer s H vs Q E hr h => ?_)
  · obtain ⟨F, qs, out, err, _, h2, h3, _⟩ := h
    rw [← Paired.len h2]
    exact len _ _ _ h3
  · obtain ⟨F, qs, out, err, h1, h2, h3, h4, h5⟩ := h
    obtain ⟨t, ht, hk⟩ := hbody f cdv A outer s H E qs out err hr h3
    exact ⟨t, ht, hk _ Q h4.ret _ F H (OkF.start h1) (env_start h2)⟩
theorem Src.okAX (F : Src K mg x st ps) (S : FnScope N ps (defScope st)) (len : ∀ qs out err, pre qs out err → qs.length = ps.length)
    (hbody : ∀ (f : Addr) (cdv : Value) (A : Around) (outer : List Env) (s : Shared) (H : Hp) (E : XK) (qs : List Vp) (out : Vp → Prop) (err : Er → Prop), Room k (A.deeper (envOfC x (defScope st) s.heap.objs.size f cdv)) → pre qs out err →
      ∃ t, PSs (cxOf (L2.CX P w) P w K mg base N x (defScope st) f cdv A outer s H E) (defBody st) t ∧ ∀ fr Q, Ret fr Q out → Rse fr E err → Kn fr (envOf N qs) [] (t { nx := fun _ H' => Q .non H', rt := Q })) : Def P w K mg base (L2.CX P w) (k + 1) x ps (spA pre) := by
  refine F.okX S (fun vs H Q E h => ?_) (fun f cdv A outer s H vs Q E hr h => ?_)
  · obtain ⟨F, qs, out, err, _, h2, h3, _⟩ := h
    rw [← Paired.len h2]
    exact len _ _ _ h3
  · obtain ⟨F, qs, out, err, h1, h2, h3, h4, h5⟩ := h
    obtain ⟨t, ht, hk⟩ := hbody f cdv A outer s H E qs out err hr h3
    exact ⟨t, ht, hk _ Q h4.ret h5.rse _ F H (OkF.start h1) (env_start h2)⟩
theorem SrcM.okA (F : SrcM K C m qual st ps) (S : FnScope N ps (defScope st)) (len : ∀ qs out err, pre qs out err → qs.length = ps.length)
    (hbody : ∀ (f : Addr) (cdv : Value) (A : Around) (outer : List Env) (s : Shared) (H : Hp) (E : XK) (qs : List Vp) (out : Vp → Prop) (err : Er → Prop), Room k (A.deeper (envOfC qual (defScope st) s.heap.objs.size f cdv)) → pre qs out err →
      ∃ t, PSs (cxOf CX0 P w K mg base N qual (defScope st) f cdv A outer s H E).nox (defBody st) t ∧ ∀ fr Q, Ret fr Q out → Kn fr (envOf N qs) [] (t { nx := fun _ H' => Q .non H', rt := Q })) : DefM P w K mg base CX0 (k + 1) C m ps (spA pre) := by
  refine F.ok S (fun vs H Q E h => ?_) (fun f cdv A outer s H vs Q E hr h => ?_)
  · obtain ⟨F, qs, out, err, _, h2, h3, _⟩ := h
    rw [← Paired.len h2]
    exact len _ _ _ h3
  · obtain ⟨F, qs, out, err, h1, h2, h3, h4, h5⟩ := h
    obtain ⟨t, ht, hk⟩ := hbody f cdv A outer s H E qs out err hr h3
    exact ⟨t, ht, hk _ Q h4.ret _ F H (OkF.start h1) (env_start h2)⟩
theorem SrcM.okAX (F : SrcM K C m qual st ps) (S : FnScope N ps (defScope st)) (len : ∀ qs out err, pre qs out err → qs.length = ps.length)
    (hbody : ∀ (f : Addr) (cdv : Value) (A : Around) (outer : List Env) (s : Shared) (H : Hp) (E : XK) (qs : List Vp) (out : Vp → Prop) (err : Er → Prop), Room k (A.deeper (envOfC qual (defScope st) s.heap.objs.size f cdv)) → pre qs out err →
      ∃ t, PSs (cxOf (L2.CX P w) P w K mg base N qual (defScope st) f cdv A outer s H E) (defBody st) t ∧ ∀ fr Q, Ret fr Q out → Rse fr E err → Kn fr (envOf N qs) [] (t { nx := fun _ H' => Q .non H', rt := Q })) : DefM P w K mg base (L2.CX P w) (k + 1) C m ps (spA pre) := by
  refine F.okX S (fun vs H Q E h => ?_) (fun f cdv A outer s H vs Q E hr h => ?_)
  · obtain ⟨F, qs, out, err, _, h2, h3, _⟩ := h
    rw [← Paired.len h2]
    exact len _ _ _ h3
  · obtain ⟨F, qs, out, err, h1, h2, h3, h4, h5⟩ := h
    obtain ⟨t, ht, hk⟩ := hbody f cdv A outer s H E qs out err hr h3
    exact ⟨t, ht, hk _ Q h4.ret h5.rse _ F H (OkF.start h1) (env_start h2)⟩
end
section
variable {fr : Fr} {Γ Γ' : Gam} {Θ : List Cel} {F F' H H' : Hp} {K : Vp → List Cel → Prop} {Q : VK}
/-! ### raise, try -/
theorem kr_E {E : XK} {err : Er → Prop} {e : Er} (h : Rse fr E err) (he : err e) : Kr fr Γ Θ (fun cls d _ H => E cls d H) e := fun σ F H ok env d us hd hf => h e he Θ F H d us ok hd hf
theorem zip_ok {fs : List Str} {ps : List Vp} {vs : List V} (h : Paired (fun (p : Vp) v => p.p F v) ps vs) : ∀ {fs : List Str}, Paired (fun (x : Str × Vp) (y : Str × V) => x.1 = y.1 ∧ x.2.p F y.2) (fs.zip ps) (fs.zip vs) := fun {fs} => by
  induction h generalizing fs with
  | nil => rw [List.zip_nil_right, List.zip_nil_right]; exact .nil
  | cons a _ ih => cases fs with
    | nil => exact .nil
    | cons f fs => exact .cons ⟨rfl, a⟩ ih
theorem Paired.rev {α β : Type} {R : α → β → Prop} {l : List α} {m : List β} (h : Paired R l m) : Paired R l.reverse m.reverse := by
  induction h with
  | nil => exact .nil
  | cons a _ ih => rw [List.reverse_cons, List.reverse_cons]; exact PySem.Paired.snoc ih a
theorem kn_raise {tm : Bool} {C : Addr} {fs : List Str} {W : WX} {ta : TA} {D : Ends} (w : Wa fr Γ Θ ta fun ps Θ1 => ps.length = fs.length ∧ (tm = true → ∃ z r, ps = iz zS z :: r ∧ z.length ≤ 1000) ∧ Kr fr Γ Θ1 W ⟨C, (fs.zip ps).reverse⟩) : Kn fr Γ Θ (tRaiseE tm C fs W ta D) := fun σ F H ok env =>
  w σ F H ok env _ fun ps Θ1 ⟨hl, ht, k⟩ vs F1 H1 s1 ok1 hps => by
    refine ⟨by rw [← Paired.len hps]; exact hl, fun h => ?_, fun d nd => ?_⟩
    · obtain ⟨z, r, e, hz⟩ := ht h
      subst e
      cases hps with
      | cons a b => exact ⟨z, _, by rw [a.1], hz⟩
    · have s2 := ok1.sameF (o := .xd (fs.zip vs).reverse) nd
      exact k σ _ _ (ok1.new nd) ((env.mono s1).mono s2) d _ upd_same (Paired.rev (zip_ok (fs := fs) (ps_mono s2 hps)))
/-- the caught exception at a, its dict at d -/
def zExc (a d : Addr) (fs : List (Str × Vp)) : Vp := ⟨fun F v => v = .ref a ∧ ∃ us, F d = some (.xd us) ∧ FsOk F fs us, fun e ⟨h1, us, h2, h3⟩ => ⟨h1, us, e _ _ h2, h3.mono e⟩⟩
theorem kr_as {Kf : PySem.W.Frag} {c : Value} {i : Nat} {ts : Addr → Value → Option Addr → TS} {Wout : WX} {D : Ends} {e : Er} (hx : PySem.W.exmOne Kf (.ref e.C) c = some true)
    (k : ∀ a d, Kn fr (Γ.set i (some (zExc a d e.fs))) Θ (ts a (.ref e.C) (some d) { nx := fun σ' H' => D.nx (σ'.set i none) H', rt := D.rt, bk := fun σ' H' => D.bk (σ'.set i none) H', ct := fun σ' H' => D.ct (σ'.set i none) H' })) : Kr fr Γ Θ (wAs Kf c i ts Wout D) e := fun σ F H ok env d us hd hf =>
  ⟨true, hx, fun _ a ha => k a d _ F H ok (env.set (p := zExc a d e.fs) ⟨rfl, us, hd, hf⟩), fun q => Bool.noConfusion q⟩
theorem kr_asN {Kf : PySem.W.Frag} {c : Value} {i : Nat} {ts : Addr → Value → Option Addr → TS} {Wout : WX} {D : Ends} {e : Er} (hx : PySem.W.exmOne Kf (.ref e.C) c = some false) (k : Kr fr Γ Θ Wout e) : Kr fr Γ Θ (wAs Kf c i ts Wout D) e := fun σ F H ok env d us hd hf =>
  ⟨false, hx, fun q => Bool.noConfusion q, fun _ => k σ F H ok env d us hd hf⟩
theorem kr_cl {Kf : PySem.W.Frag} {c : Value} {i : Nat} {ts : Addr → Value → Option Addr → TS} {Wout : WX} {D : Ends} {r : List Clause} {e : Er} (hx : PySem.W.exmOne Kf (.ref e.C) c = some true)
    (k : ∀ a d, Kn fr (Γ.set i (some (zExc a d e.fs))) Θ (ts a (.ref e.C) (some d) { nx := fun σ' H' => D.nx (σ'.set i none) H', rt := D.rt, bk := fun σ' H' => D.bk (σ'.set i none) H', ct := fun σ' H' => D.ct (σ'.set i none) H' })) : Kr fr Γ Θ (wClauses Kf Wout D ((c, some i, ts) :: r)) e := fun σ F H ok env d us hd hf =>
  ⟨true, hx, fun _ a ha => k a d _ F H ok (env.set (p := zExc a d e.fs) ⟨rfl, us, hd, hf⟩), fun q => Bool.noConfusion q⟩
theorem kr_cl0 {Kf : PySem.W.Frag} {c : Value} {ts : Addr → Value → Option Addr → TS} {Wout : WX} {D : Ends} {r : List Clause} {e : Er} (hx : PySem.W.exmOne Kf (.ref e.C) c = some true)
    (k : ∀ a d, Kn fr Γ Θ (ts a (.ref e.C) (some d) D)) : Kr fr Γ Θ (wClauses Kf Wout D ((c, none, ts) :: r)) e := fun σ F H ok env d us hd hf =>
  ⟨true, hx, fun _ a ha => k a d _ F H ok env, fun q => Bool.noConfusion q⟩
theorem kr_clN {Kf : PySem.W.Frag} {c : Value} {o : Option Nat} {ts : Addr → Value → Option Addr → TS} {Wout : WX} {D : Ends} {r : List Clause} {e : Er} (hx : PySem.W.exmOne Kf (.ref e.C) c = some false) (k : Kr fr Γ Θ (wClauses Kf Wout D r) e) : Kr fr Γ Θ (wClauses Kf Wout D ((c, o, ts) :: r)) e := fun σ F H ok env d us hd hf =>
  ⟨false, hx, fun q => Bool.noConfusion q, fun _ => k σ F H ok env d us hd hf⟩
theorem kn_try {tb : WX → TS} {W : Ends → WX} {D : Ends} (k : Kn fr Γ Θ (tb (W D) D)) : Kn fr Γ Θ ((fun D σ H => tb (W D) D σ H) D) := k
theorem kn_suite {i : Nat} {P : L2.St → Hp → Prop} (k : Kn fr (Γ.set i none) Θ P) : Kn fr Γ Θ (fun σ' H' => P (σ'.set i none) H') := fun σ F H ok env => k _ F H ok env.drop
theorem we_xf {a d C : Addr} {f : Str} {te : TE} {fs : List (Str × Vp)} {q : Vp} (w : We fr Γ Θ te fun p Θ1 => p = zExc a d fs ∧ fs.lookup f = some q ∧ K q Θ1) : We fr Γ Θ (tXf a (.ref C) (some d) C f te) K := fun σ F H ok env Q k =>
  w σ F H ok env _ fun p Θ1 ⟨e, hl, kk⟩ v F1 H1 s1 ok1 hp => by
    subst e
    obtain ⟨h1, us, h2, h3⟩ := hp
    obtain ⟨u, h4, h5⟩ := h3.look hl
    exact ⟨h1, rfl, d, us, u, rfl, ok1.fh _ _ h2, h4, k q Θ1 kk u F1 H1 s1 ok1 h5⟩
/-! ### fields -/
def FldR (Kf : PySem.W.Frag) (f : Str) (p q : Vp) : Prop := ∀ F v, p.p F v → ∃ a C dx fs u, v = .ref a ∧ F a = some (.ins C dx fs) ∧ Cls Kf C ∧ NoAttr Kf C f ∧ fs.lookup f = some u ∧ q.p F u
/-- the field f of p is q -/
def FldP (fr : Fr) (Θ : List Cel) (Kf : PySem.W.Frag) (f : Str) (p q : Vp) : Prop := ∀ F H v, OkF fr Θ F H → p.p F v → ∃ a C dx fs u, v = .ref a ∧ H a = some (.ins C dx fs) ∧ Cls Kf C ∧ NoAttr Kf C f ∧ fs.lookup f = some u ∧ q.p F u
theorem FldR.p {Kf : PySem.W.Frag} {f : Str} {p q : Vp} (h : FldR Kf f p q) : FldP fr Θ Kf f p q := fun F H v ok hv => by
  obtain ⟨a, C, dx, fs, u, h1, h2, h3, h4, h5, h6⟩ := h F v hv
  exact ⟨a, C, dx, fs, u, h1, ok.fh _ _ h2, h3, h4, h5, h6⟩
theorem we_fld {Kf : PySem.W.Frag} {f : Str} {ta : TE} (w : We fr Γ Θ ta fun p Θ1 => ∃ q, FldP fr Θ1 Kf f p q ∧ K q Θ1) : We fr Γ Θ (tFld Kf ta f) K := fun σ F H ok env Q k =>
  w σ F H ok env _ fun p Θ1 ⟨q, hf, kk⟩ v F1 H1 s1 ok1 hp => by
    obtain ⟨a, C, dx, fs, u, h1, h2, h3, h4, h5, h6⟩ := hf F1 H1 v ok1 hp
    exact ⟨a, C, dx, fs, u, h1, h2, h3, h4, h5, k q Θ1 kk u F1 H1 s1 ok1 h6⟩
/-! ### changes of cells -/
theorem ty_cell {α : Type} {r : Rep α} {xs : List α} {a : Addr} {Kf : PySem.W.Frag} (hc : cL a r xs ∈ Θ) : ∀ F H v, OkF fr Θ F H → (zAt a).p F v → tyV Kf "list" v H := fun F H v ok hv => by
  have hv : v = .ref a := hv
  subst hv
  obtain ⟨_, ⟨o, h2, vs, rfl, h4⟩, _⟩ := ok.ce _ hc
  exact .inl ⟨rfl, vs, SqL.of h2⟩
theorem mts_append {α : Type} {r : Rep α} {xs : List α} {x : α} {a : Addr} {j : Nat} (hj : Θ[j]? = some (cL a r xs)) (hl : xs.length < 1000) (k : K zNon (Θ.set j (cL a r (xs ++ [x])))) : Mts fr Θ rAppend (zAt a) [iz r x] K := fun F H v vs ok hv hps Q q => by
  have hv : v = .ref a := hv
  subst hv
  obtain ⟨_, ⟨o, h2, us, rfl, h4⟩, _⟩ := ok.ce _ (List.mem_of_getElem? hj)
  cases hps with
  | cons h1 hp => cases hp with
    | nil => exact ⟨a, us, _, rfl, rfl, h2, by rw [Paired.len h4]; exact small1000 (Nat.le_of_lt hl), q _ _ k _ F _ (Same.refl F) (ok.mut hj rfl rfl ⟨_, rfl, PySem.Paired.snoc h4 h1⟩) rfl⟩
/-- xs.append(e) -/
theorem kn_append {Kf : PySem.W.Frag} {α : Type} {r : Rep α} {xs : List α} {a : Addr} {i : Nat} {te : TE} {D : Ends} (hi : Γ[i]? = some (some (zAt a))) (hc : cL a r xs ∈ Θ)
    (w : We fr Γ Θ te fun p Θ1 => ∃ x j, p = iz r x ∧ Θ1[j]? = some (cL a r xs) ∧ xs.length < 1000 ∧ Kn fr Γ (Θ1.set j (cL a r (xs ++ [x]))) D.nx) : Kn fr Γ Θ (tDrop (tBM Kf "list" rAppend (tVar i) (tCons te tNil)) D) :=
  kn_drop (we_bm (we_var hi ⟨ty_cell hc, wa_cons (w.imp fun p Θ1 ⟨x, j, e, hj, hl, k⟩ => wa_nil (by
    subst e
    exact mts_append hj hl k))⟩))
/-! ### a[i] = e -/
theorem kn_setL {α : Type} {r : Rep α} {xs : List α} {a : Addr} {i : Nat} {te ti : TE} {D : Ends} (hi : Γ[i]? = some (some (zAt a)))
    (w : We fr Γ Θ te fun p Θ1 => We fr Γ Θ1 ti fun q Θ2 => ∃ x n m j, p = iz r x ∧ q = iz zI n ∧ Θ2[j]? = some (cL a r xs) ∧ ixN xs.length n = some m ∧ Kn fr Γ (Θ2.set j (cL a r (xs.set m x))) D.nx) : Kn fr Γ Θ (tAsg te (gSub (tVar i) ti rSetL) D) := fun σ F H ok env =>
  w σ F H ok env _ fun p Θ1 k v F1 H1 s1 ok1 hp => by
    obtain ⟨v0, h1, h2⟩ := (env.mono s1).get hi
    have h2 : v0 = .ref a := h2
    subst h2
    refine ⟨_, h1, k σ F1 H1 ok1 (env.mono s1) _ fun q Θ2 ⟨x, n, m, j, e1, e2, hj, hm, k2⟩ w2 F2 H2 s2 ok2 hp2 => ?_⟩
    subst e1 e2
    obtain ⟨_, ⟨o, h3, us, rfl, h4⟩, _⟩ := ok2.ce _ (List.mem_of_getElem? hj)
    exact ⟨a, us, n, m, rfl, hp2, h3, by rw [Paired.len h4]; exact hm, k2 σ F2 _ (ok2.mut hj rfl rfl ⟨_, rfl, Paired.set (r.mono s2 hp) m h4⟩) ((env.mono s1).mono s2)⟩
/-! ### equality of data -/
class Dat {α : Type} (r : Rep α) where
  enc : α → PyData
  dep : Nat
  dp : ∀ {Kf : PySem.W.Frag} {F : Hp} {v : V} {x : α}, r.p F v x → Dp Kf F v (enc x)
  ok : ∀ {F : Hp} {v : V} {x : α}, r.p F v x → nb (enc x) = true
  dl : ∀ x : α, (enc x).depth ≤ dep
  inj : ∀ {x y : α}, enc x = enc y → x = y
instance : Dat zI := ⟨PyData.int, 0, fun h => by cases (show _ = V.int _ from h); exact .int _, fun _ => rfl, fun _ => by simp [PyData.depth], fun h => PyData.int.inj h⟩
instance : Dat zS := ⟨PyData.str, 0, fun h => by cases h.1; exact .str _, fun h => h.2.ok, fun _ => by simp [PyData.depth], fun h => PyData.str.inj h⟩
theorem map_inj' {α β : Type} {f : α → β} (hf : ∀ x y, f x = f y → x = y) : ∀ {l m : List α}, l.map f = m.map f → l = m
  | [], [], _ => rfl
  | [], _ :: _, h => by cases h
  | _ :: _, [], h => by cases h
  | a :: l, b :: m, h => by
    rw [List.map_cons, List.map_cons, List.cons.injEq] at h
    rw [hf _ _ h.1, map_inj' hf h.2]
theorem dat_all {α : Type} {r : Rep α} [d : Dat r] {Kf : PySem.W.Frag} {vs : List V} {xs : List α} (h : PVs r F vs xs) : DpAll Kf F vs (xs.map d.enc) := by
  induction h with
  | nil => exact .nil
  | cons a _ ih => exact .cons (d.dp a) ih
theorem dat_nb {α : Type} {r : Rep α} [d : Dat r] {vs : List V} {xs : List α} (h : PVs r F vs xs) : nbAll (xs.map d.enc) = true := by
  induction h with
  | nil => rfl
  | cons a _ ih => show (nb _ && nbAll _) = true; rw [d.ok a, ih]; rfl
theorem dat_dep {α : Type} {r : Rep α} [d : Dat r] (xs : List α) : PyData.depthAll (xs.map d.enc) ≤ d.dep := depthAll_le fun y hy => by
  obtain ⟨x, _, rfl⟩ := List.mem_map.mp hy
  exact d.dl x
instance {α : Type} {r : Rep α} [d : Dat r] : Dat (zL r) := ⟨fun xs => .list (xs.map d.enc), d.dep + 1, fun ⟨a, vs, h1, h2, h3⟩ => by subst h1; exact .lst (SqL.of h2) (dat_all h3), fun ⟨a, vs, h1, h2, h3⟩ => dat_nb h3, fun xs => by
  have := dat_dep (r := r) xs
  simp only [PyData.depth]
  omega, fun h => map_inj' (fun _ _ => d.inj) (PyData.list.inj h)⟩
instance {α : Type} {r : Rep α} [d : Dat r] : Dat (zT r) := ⟨fun xs => .tuple (xs.map d.enc), d.dep + 1, fun ⟨a, vs, h1, h2, h3⟩ => by subst h1; exact .tup (SqT.of h2) (dat_all h3), fun ⟨a, vs, h1, h2, h3⟩ => dat_nb h3, fun xs => by
  have := dat_dep (r := r) xs
  simp only [PyData.depth]
  omega, fun h => map_inj' (fun _ _ => d.inj) (PyData.tuple.inj h)⟩
instance {α β : Type} {r : Rep α} {s : Rep β} [d : Dat r] [e : Dat s] : Dat (z2 r s) := ⟨fun x => .tuple [d.enc x.1, e.enc x.2], d.dep + e.dep + 1, fun ⟨a, u, w, h1, h2, h3, h4⟩ => by subst h1; exact .tup (SqT.of h2) (.cons (d.dp h3) (.cons (e.dp h4) .nil)),
  fun ⟨a, u, w, h1, h2, h3, h4⟩ => by show (nb _ && (nb _ && true)) = true; rw [d.ok h3, e.ok h4]; rfl, fun x => by
    have h1 := d.dl x.1
    have h2 := e.dl x.2
    simp only [PyData.depth, PyData.depthAll]
    omega, fun {x y} h => by
    have h := PyData.tuple.inj h
    rw [List.cons.injEq, List.cons.injEq] at h
    exact Prod.ext (d.inj h.1) (e.inj h.2.1)⟩
instance {α β γ : Type} {r : Rep α} {s : Rep β} {t : Rep γ} [d : Dat r] [e : Dat s] [f : Dat t] : Dat (z3 r s t) := ⟨fun x => .tuple [d.enc x.1, e.enc x.2.1, f.enc x.2.2], d.dep + e.dep + f.dep + 1, fun ⟨a, u, w, z, h1, h2, h3, h4, h5⟩ => by subst h1; exact .tup (SqT.of h2) (.cons (d.dp h3) (.cons (e.dp h4) (.cons (f.dp h5) .nil))),
  fun ⟨a, u, w, z, h1, h2, h3, h4, h5⟩ => by show (nb _ && (nb _ && (nb _ && true))) = true; rw [d.ok h3, e.ok h4, f.ok h5]; rfl, fun x => by
    have h1 := d.dl x.1
    have h2 := e.dl x.2.1
    have h3 := f.dl x.2.2
    simp only [PyData.depth, PyData.depthAll]
    omega, fun {x y} h => by
    have h := PyData.tuple.inj h
    rw [List.cons.injEq, List.cons.injEq, List.cons.injEq] at h
    exact Prod.ext (d.inj h.1) (Prod.ext (e.inj h.2.1) (f.inj h.2.2.1))⟩
theorem dat_eqv {α : Type} [DecidableEq α] {r : Rep α} [d : Dat r] {v w : V} {x y : α} (hv : r.p F v x) (hw : r.p F w y) : PyData.eqv (d.enc x) (d.enc y) = decide (x = y) := by
  have h := eqv_nb (d.enc x) (d.enc y) (d.ok hv) (d.ok hw)
  by_cases e : x = y
  · rw [decide_eq_true e, h, e]
  · rw [decide_eq_false e]
    cases q : PyData.eqv (d.enc x) (d.enc y) with
    | false => rfl
    | true => exact absurd (d.inj (h.mp q)) e
theorem Dp.up {Kf : PySem.W.Frag} {v : V} {d : PyData} (h : Dp Kf F v d) (e : Same F H) : Dp Kf H v d := Dp.keep e d v h
theorem ops_eqD {Kf : PySem.W.Frag} {α : Type} [DecidableEq α] {r : Rep α} [d : Dat r] {x y : α} (hd : d.dep ≤ 64) (k : K (iz zB (decide (x = y))) Θ) : Ops fr Θ (rEqD Kf) (iz r x) (iz r y) K := fun F H v w ok hv hw Q q => by
  refine ⟨d.enc x, d.enc y, (d.dp hv).up ok.fh, (d.dp hw).up ok.fh, shaped_of (d.ok hv) (Nat.le_trans (d.dl x) hd), shaped_of (d.ok hw) (Nat.le_trans (d.dl y) hd), ?_⟩
  rw [dat_eqv (r := r) hv hw]
  exact q.go k ok rfl
theorem ops_neD {Kf : PySem.W.Frag} {α : Type} [DecidableEq α] {r : Rep α} [d : Dat r] {x y : α} (hd : d.dep ≤ 64) (k : K (iz zB (!decide (x = y))) Θ) : Ops fr Θ (rNeD Kf) (iz r x) (iz r y) K := fun F H v w ok hv hw Q q => by
  refine ⟨d.enc x, d.enc y, (d.dp hv).up ok.fh, (d.dp hw).up ok.fh, shaped_of (d.ok hv) (Nat.le_trans (d.dl x) hd), shaped_of (d.ok hw) (Nat.le_trans (d.dl y) hd), ?_⟩
  rw [dat_eqv (r := r) hv hw]
  exact q.go k ok rfl
/-! ### the law's box -/
theorem OkF.growB {b l : Addr} {own : Bool} (k : OkF fr Θ F H) (hc : cBox own b l ∈ Θ) (hh : SameB b H H') (hb : ∃ o, H' b = some o ∧ (cBox own b l).φ F' o) (ff : Same F F') (fh : Same F' H') (fb : F' b = none) (nw : Newer F H F') : OkF fr Θ F' H' := by
  obtain ⟨i, hi⟩ := List.getElem?_of_mem hc
  obtain ⟨c1, ⟨o1, c2, c3⟩, c4⟩ := k.ce _ hc
  refine ⟨fh, k.f0.trans ff, fun a o h => ?_, fun a o hB h => ?_, fun a o h => ?_, k.nd, fun c hm => ?_⟩
  · exact k.nwr ff h (nw a o h)
  · have ne : a ≠ b := fun e => by
      have c4 : (if own = true then fr.H0 b = none else b ∈ fr.B) := c4
      cases own with
      | true =>
        rw [if_pos rfl] at c4
        rw [e, c4] at h
        cases h
      | false =>
        rw [if_neg Bool.false_ne_true] at c4
        rw [e] at hB
        exact hB c4
    exact hh a o ne (k.h0 a o hB h)
  · by_cases e : a = b
    · obtain ⟨o', h', _⟩ := hb
      exact ⟨o', by rw [e]; exact h'⟩
    · obtain ⟨o', h'⟩ := k.al a o h
      exact ⟨o', hh a o' e h'⟩
  · obtain ⟨h1, ⟨u, h2, h3⟩, h4⟩ := k.ce c hm
    by_cases e : c.a = b
    · obtain ⟨j, hj⟩ := List.getElem?_of_mem hm
      have := nodup_at k.nd hi hj e
      subst this
      rw [hi] at hj
      cases hj
      exact ⟨fb, hb, h4⟩
    · refine ⟨?_, ⟨u, hh _ _ e h2, c.mono ff h3⟩, h4⟩
      cases q : F' c.a with
      | none => rfl
      | some o =>
        rcases nw _ _ q with ⟨o', h'⟩ | h' | ⟨vs, ht⟩
        · rw [h1] at h'
          cases h'
        · rw [h2] at h'
          cases h'
        · have e1 := fh _ _ q
          rw [hh _ _ e h2] at e1
          exact (c.nt h3 ((Option.some.inj e1).trans ht)).elim
theorem box_of {b l : Addr} {own : Bool} {o : HO} (hb : H b = some o) (h : (cBox own b l).φ F o) (fh : Same F H) (fb : F b = none) : Box H b l := by
  obtain ⟨ns, i, c, r, rfl, h2, h3⟩ := h
  exact ⟨ns, i, c, r, hb, fh _ _ h2, h3, fun e => by rw [e, fb] at h2; cases h2⟩
/-- _law_next(box, many) -/
theorem sps_next {E : L2.St → XK} {b l : Addr} {own : Bool} {m : Int} (hc : cBox own b l ∈ Θ) (h0 : 0 < m) (h1 : m ≤ 10 ^ 40) (k : ∀ n : Int, 0 ≤ n → n < m → K (iz zI n) Θ) : Sps fr Γ Θ spNext E [zAt b, iz zI m] K := fun σ F H vs ok env hps Q q => by
  obtain ⟨c1, ⟨o1, c2, c3⟩, _⟩ := ok.ce _ hc
  have c1 : F b = none := c1
  have hbx := box_of (own := own) c2 c3 ok.fh c1
  cases hps with
  | cons h2 hp => cases hp with
    | cons h3 hp => cases hp with
      | nil =>
        have h2 : _ = V.ref b := h2
        have h3 : _ = V.int m := h3
        subst h2 h3
        refine ⟨b, l, m, rfl, h0, h1, hbx, fun n H' n0 n1 bx => ?_⟩
        obtain ⟨ns, i, c, r, e1, e2, e3, e4⟩ := bx.b1.ex
        obtain ⟨ns', _, _, _, _, c3', _⟩ := c3
        refine q _ _ (k n n0 n1) _ F H' (Same.refl F) (ok.growB hc bx.sm ⟨_, e1, ns', i, c, r, rfl, c3', e3⟩ (Same.refl F) (fun a o h => bx.sm a o (fun e => by rw [e, c1] at h; cases h) (ok.fh a o h)) c1 (Newer.refl _ _)) rfl
end
end L2

set_option Elab.async false
set_option linter.all false
set_option maxRecDepth 100000
set_option maxHeartbeats 4000000
/-! The ground: dicts by words, plans. -/
namespace L2
open PySem PySem.Spec PyProof.Rows PySem.HErr
def KVs {α : Type} (r : Rep α) (F : Hp) (kvs : List (Key × V)) (rows : List (Str × α)) : Prop := Paired (fun (kv : Key × V) (x : Str × α) => kv.1 = Sum.inr x.1 ∧ r.p F kv.2 x.2) kvs rows
theorem KVs.mono {α : Type} {r : Rep α} {F F' : Hp} {kvs : List (Key × V)} {rows : List (Str × α)} (h : KVs r F kvs rows) (e : Same F F') : KVs r F' kvs rows := Paired.imp2 (fun _ _ ⟨h1, h2⟩ => ⟨h1, r.mono e h2⟩) h
/-- a dict from texts, frozen -/
def zD {α : Type} (r : Rep α) : Rep (List (Str × α)) := ⟨fun F v rows => ∃ a kvs, v = .ref a ∧ F a = some (.dK kvs) ∧ KVs r F kvs rows, fun e ⟨a, kvs, h1, h2, h3⟩ => ⟨a, kvs, h1, e _ _ h2, h3.mono e⟩⟩
/-- a dict from texts, one's own -/
def cD {α : Type} (a : Addr) (r : Rep α) (rows : List (Str × α)) : Cel := ⟨a, true, fun F o => ∃ kvs, o = .dK kvs ∧ KVs r F kvs rows, fun e ⟨kvs, h1, h2⟩ => ⟨kvs, h1, h2.mono e⟩, fun h e => by subst e; simp at h⟩
/-- the value by a key -/
def getR {α : Type} (rows : List (Str × α)) (n : Str) : Option α := (rows.find? fun x => decide (x.1 = n)).map (·.2)
theorem getR_mem {α : Type} {rows : List (Str × α)} {n : Str} {x : α} (h : getR rows n = some x) : (n, x) ∈ rows := by
  unfold getR at h
  obtain ⟨y, hy, e⟩ := Option.map_eq_some_iff.mp h
  have h1 := List.mem_of_find?_eq_some hy
  have h2 : decide (y.1 = n) = true := List.find?_some (p := fun (x : Str × α) => decide (x.1 = n)) hy
  have h2 := of_decide_eq_true h2
  subst h2 e
  exact h1
theorem getR_none {α : Type} {rows : List (Str × α)} {n : Str} : getR rows n = none ↔ n ∉ rows.map (·.1) := by
  unfold getR
  rw [Option.map_eq_none_iff, List.find?_eq_none]
  constructor
  · intro h q
    obtain ⟨y, hy, e⟩ := List.mem_map.mp q
    exact h y hy (by simp [e])
  · intro h y hy q
    exact h (List.mem_map.mpr ⟨y, hy, of_decide_eq_true q⟩)
theorem getR_nodup {α : Type} {rows : List (Str × α)} (hn : (rows.map (·.1)).Nodup) {n : Str} {x : α} (h : (n, x) ∈ rows) : getR rows n = some x := by
  cases e : getR rows n with
  | none => exact absurd (List.mem_map.mpr ⟨_, h, rfl⟩) (getR_none.mp e)
  | some y =>
    have h2 := getR_mem e
    have : ∀ {l : List (Str × α)}, (l.map (·.1)).Nodup → (n, x) ∈ l → (n, y) ∈ l → y = x := by
      intro l
      induction l with
      | nil => intro _ h; cases h
      | cons a l ih =>
        intro hn h1 h2
        rw [List.map_cons, List.nodup_cons] at hn
        rcases List.mem_cons.mp h1 with h1 | h1
        · rcases List.mem_cons.mp h2 with h2 | h2
          · rw [← h1] at h2
            exact (Prod.mk.inj h2).2
          · exact absurd (List.mem_map.mpr ⟨_, h2, by rw [← h1]⟩) hn.1
        · rcases List.mem_cons.mp h2 with h2 | h2
          · exact absurd (List.mem_map.mpr ⟨_, h1, by rw [← h2]⟩) hn.1
          · exact ih hn.2 h1 h2
    rw [this hn h h2]
section
variable {fr : Fr} {Γ Γ' : Gam} {Θ : List Cel} {F F' H H' : Hp} {K : Vp → List Cel → Prop} {Q : VK}
theorem KVs.val {α : Type} {r : Rep α} {n : Str} : ∀ {kvs : List (Key × V)} {rows : List (Str × α)}, KVs r F kvs rows → (∀ x, getR rows n = some x → ∃ u, valV kvs (Sum.inr n) = some u ∧ r.p F u x) ∧ (getR rows n = none → valV kvs (Sum.inr n) = none)
  | _, _, .nil => ⟨(fun x h => by cases h), fun _ => rfl⟩
  | kv :: kvs, (a, y) :: rows, .cons ⟨h1, h2⟩ hr => by
    have h1 : kv.1 = Sum.inr a := h1
    obtain ⟨ih1, ih2⟩ := KVs.val (n := n) hr
    by_cases e : a = n
    · subst e
      have e2 : getR ((a, y) :: rows) a = some y := by unfold getR; simp
      refine ⟨fun x hx => ?_, fun hx => ?_⟩
      · rw [e2] at hx
        cases hx
        exact ⟨kv.2, by rw [valV_pos h1], h2⟩
      · rw [e2] at hx
        cases hx
    · have e2 : getR ((a, y) :: rows) n = getR rows n := by unfold getR; simp [e]
      have hk : ¬ kv.1 = Sum.inr n := fun q => by rw [h1] at q; exact e (Sum.inr.inj q)
      rw [e2, valV_neg hk]
      exact ⟨ih1, ih2⟩
/-- a dict to be read -/
def DicP {α : Type} (fr : Fr) (Θ : List Cel) (p : Vp) (r : Rep α) (rows : List (Str × α)) : Prop := ∀ F H v, OkF fr Θ F H → p.p F v → ∃ a kvs, v = .ref a ∧ H a = some (.dK kvs) ∧ KVs r F kvs rows
theorem dic_D {α : Type} {r : Rep α} {rows : List (Str × α)} : DicP fr Θ (iz (zD r) rows) r rows := fun F H v ok ⟨a, kvs, h1, h2, h3⟩ => ⟨a, kvs, h1, ok.fh _ _ h2, h3⟩
theorem dic_C {α : Type} {r : Rep α} {rows : List (Str × α)} {a : Addr} (hc : cD a r rows ∈ Θ) : DicP fr Θ (zAt a) r rows := fun F H v ok hv => by
  obtain ⟨_, ⟨o, h2, kvs, rfl, h4⟩, _⟩ := ok.ce _ hc
  exact ⟨a, kvs, hv, h2, h4⟩
theorem we_dget {td ty : TE} (w : We fr Γ Θ td fun p Θ1 => We fr Γ Θ1 ty fun q Θ2 => ∃ (α : Type) (r : Rep α) (rows : List (Str × α)) (n : Str) (x : α), DicP fr Θ2 p r rows ∧ q = iz zS n ∧ getR rows n = some x ∧ K (iz r x) Θ2) : We fr Γ Θ (tDGet td ty) K := fun σ F H ok env Q q =>
  w σ F H ok env _ fun p Θ1 k v F1 H1 s1 ok1 hp => k σ F1 H1 ok1 (env.mono s1) _ fun p2 Θ2 ⟨α, r, rows, n, x, hd, e, hx, kk⟩ v2 F2 H2 s2 ok2 hp2 => by
    subst e
    obtain ⟨a, kvs, h1, h2, h3⟩ := hd F2 H2 v ok2 (p.mono s2 hp)
    obtain ⟨u, hu, hr⟩ := h3.val.1 x hx
    exact ⟨a, u, h1, .inl ⟨kvs, Sum.inr n, .inl h2, hp2.1, hu.symm⟩, q _ _ kk u F2 H2 (s1.trans s2) ok2 hr⟩
theorem opt_some {α : Type} {r : Rep α} {rows : List (Str × α)} {kvs : List (Key × V)} {n : Str} (h3 : KVs r F kvs rows) : (valV kvs (Sum.inr n)).isSome = (getR rows n).isSome := by
  cases e : getR rows n with
  | none => rw [h3.val.2 e]; rfl
  | some x =>
    obtain ⟨u, hu, _⟩ := h3.val.1 x e
    rw [hu]
    rfl
theorem we_din {td ty : TE} (w : We fr Γ Θ ty fun q Θ1 => We fr Γ Θ1 td fun p Θ2 => ∃ (α : Type) (r : Rep α) (rows : List (Str × α)) (n : Str), DicP fr Θ2 p r rows ∧ q = iz zS n ∧ K (iz zB (getR rows n).isSome) Θ2) : We fr Γ Θ (tDIn ty td) K := fun σ F H ok env Q q =>
  w σ F H ok env _ fun p Θ1 k v F1 H1 s1 ok1 hp => k σ F1 H1 ok1 (env.mono s1) _ fun p2 Θ2 ⟨α, r, rows, n, hd, e, kk⟩ v2 F2 H2 s2 ok2 hp2 => by
    subst e
    obtain ⟨a, kvs, h1, h2, h3⟩ := hd F2 H2 v2 ok2 hp2
    refine ⟨a, _, h1, .inl ⟨kvs, Sum.inr n, .inl h2, hp.1, rfl⟩, q _ _ kk _ F2 H2 (s1.trans s2) ok2 ?_⟩
    show _ = V.bl _
    rw [opt_some h3]
theorem we_dnin {td ty : TE} (w : We fr Γ Θ ty fun q Θ1 => We fr Γ Θ1 td fun p Θ2 => ∃ (α : Type) (r : Rep α) (rows : List (Str × α)) (n : Str), DicP fr Θ2 p r rows ∧ q = iz zS n ∧ K (iz zB (!(getR rows n).isSome)) Θ2) : We fr Γ Θ (tDNotIn ty td) K := fun σ F H ok env Q q =>
  w σ F H ok env _ fun p Θ1 k v F1 H1 s1 ok1 hp => k σ F1 H1 ok1 (env.mono s1) _ fun p2 Θ2 ⟨α, r, rows, n, hd, e, kk⟩ v2 F2 H2 s2 ok2 hp2 => by
    subst e
    obtain ⟨a, kvs, h1, h2, h3⟩ := hd F2 H2 v2 ok2 hp2
    refine ⟨a, _, h1, .inl ⟨kvs, Sum.inr n, .inl h2, hp.1, rfl⟩, q _ _ kk _ F2 H2 (s1.trans s2) ok2 ?_⟩
    show _ = V.bl _
    rw [opt_some h3]
/-- {} of one's own -/
theorem we_dnew {α : Type} (r : Rep α) (k : ∀ a, K (zAt a) (cD a r [] :: Θ)) : We fr Γ Θ tDNewK K := fun σ F H ok env Q q a na => q _ _ (k a) _ F _ (Same.refl F) (ok.mkOwn (c := cD a r []) na rfl ⟨[], rfl, .nil⟩) rfl
def putR {α : Type} (rows : List (Str × α)) (n : Str) (x : α) : List (Str × α) := if n ∈ rows.map (·.1) then rows.map fun y => if y.1 = n then (y.1, x) else y else rows ++ [(n, x)]
theorem KVs.put {α : Type} {r : Rep α} {kvs : List (Key × V)} {rows : List (Str × α)} {n : Str} {x : α} {u : V} (h : KVs r F kvs rows) (hu : r.p F u x) : KVs r F (putK kvs (Sum.inr n) u) (putR rows n x) := by
  have hk : (kvs.any fun kv => decide (kv.1 = Sum.inr n)) = decide (n ∈ rows.map (·.1)) := by
    induction h with
    | nil => rfl
    | cons a b ih =>
      rename_i kv y kvs rows
      rw [List.any_cons, ih, a.1, List.map_cons]
      by_cases e : y.1 = n
      · rw [decide_eq_true (by rw [e]), Bool.true_or, decide_eq_true (by rw [e]; exact List.mem_cons_self ..)]
      · rw [decide_eq_false (fun q => e (Sum.inr.inj q)), Bool.false_or]
        by_cases e2 : n ∈ rows.map (·.1)
        · rw [decide_eq_true e2, decide_eq_true (List.mem_cons_of_mem _ e2)]
        · rw [decide_eq_false e2, decide_eq_false fun q => (List.mem_cons.mp q).elim (fun q => e q.symm) e2]
  unfold putK putR
  by_cases e : n ∈ rows.map (·.1)
  · rw [if_pos e, if_pos (by rw [hk]; exact decide_eq_true e)]
    clear hk e
    induction h with
    | nil => exact .nil
    | cons a b ih =>
      refine .cons ?_ ih
      rename_i kv y kvs rows
      dsimp only
      by_cases e : y.1 = n
      · rw [if_pos e, if_pos (by rw [a.1, e])]
        exact ⟨a.1, hu⟩
      · rw [if_neg e, if_neg (fun q => e (Sum.inr.inj (a.1.symm.trans q)))]
        exact a
  · rw [if_neg e, if_neg (by rw [hk]; simpa using e)]
    exact PySem.Paired.snoc h ⟨rfl, hu⟩
/-- d[n] = x -/
theorem kn_dput {td ty tv : TE} {D : Ends} (w : We fr Γ Θ tv fun p Θ1 => We fr Γ Θ1 td fun pd Θ2 => We fr Γ Θ2 ty fun q Θ3 => ∃ (α : Type) (r : Rep α) (rows : List (Str × α)) (n : Str) (x : α) (a : Addr) (j : Nat), p = iz r x ∧ pd = zAt a ∧ q = iz zS n ∧ Θ3[j]? = some (cD a r rows) ∧ rows.length < 1000 ∧ Kn fr Γ (Θ3.set j (cD a r (putR rows n x))) D.nx) : Kn fr Γ Θ (sDPut td ty tv D) := fun σ F H ok env =>
  w σ F H ok env _ fun p Θ1 k v F1 H1 s1 ok1 hp => k σ F1 H1 ok1 (env.mono s1) _ fun p2 Θ2 k2 v2 F2 H2 s2 ok2 hp2 => k2 σ F2 H2 ok2 ((env.mono s1).mono s2) _ fun p3 Θ3 ⟨α, r, rows, n, x, a, j, e1, e2, e3, hj, hl, kk⟩ v3 F3 H3 s3 ok3 hp3 => by
    subst e1 e2 e3
    obtain ⟨_, ⟨o, h2, kvs, rfl, h4⟩, _⟩ := ok3.ce _ (List.mem_of_getElem? hj)
    refine ⟨a, _, hp2, .inl ⟨kvs, Sum.inr n, h2, hp3.1, by rw [Paired.len h4]; exact small1000 (Nat.le_of_lt hl), rfl⟩, ?_⟩
    exact kk σ F3 _ (ok3.mut hj rfl rfl ⟨_, rfl, h4.put (r.mono (s2.trans s3) hp)⟩) (((env.mono s1).mono s2).mono s3)
end
/-! ### plans -/
structure PlanOk (d : PlanD) : Prop where
  pa : ∀ y ∈ d.places, Wd y
  pn : d.places.Nodup
  bl : d.begin.length = d.places.length
  bn : ∀ n ∈ d.begin, 0 ≤ n ∧ n ≤ 99
  st : ∀ r ∈ d.steps, Wd r.1 ∧ r.2.1 ≠ [] ∧ inOrd d.places r.2.1 = r.2.1 ∧ inOrd d.places r.2.2 = r.2.2
  sn : d.names.Nodup
  p12 : d.places.length ≤ 12
  s16 : d.steps.length ≤ 16
theorem inOrd_sub {ps ns : List Str} {y : Str} (h : y ∈ inOrd ps ns) : y ∈ ps ∧ y ∈ ns := by
  unfold inOrd at h
  obtain ⟨h1, h2⟩ := List.mem_filter.mp h
  exact ⟨h1, of_decide_eq_true h2⟩
theorem PlanOk.tk {d : PlanD} (h : PlanOk d) {r : SRow} (hr : r ∈ d.steps) {y : Str} (hy : y ∈ r.2.1) : y ∈ d.places := by
  rw [← (h.st r hr).2.2.1] at hy
  exact (inOrd_sub hy).1
theorem PlanOk.gv {d : PlanD} (h : PlanOk d) {r : SRow} (hr : r ∈ d.steps) {y : Str} (hy : y ∈ r.2.2) : y ∈ d.places := by
  rw [← (h.st r hr).2.2.2] at hy
  exact (inOrd_sub hy).1
theorem inOrd_nodup {ps ns : List Str} (h : ps.Nodup) : (inOrd ps ns).Nodup := List.Sublist.nodup (List.filter_sublist) h
def zPlan (C : Addr) : Rep PlanD := ⟨fun F v d => ∃ x, v = .ref x ∧ PlanAt F C x d ∧ PlanOk d, fun e ⟨x, h1, h2, h3⟩ => ⟨x, h1, h2.keep e, h3⟩⟩
def PlanD.tk (d : PlanD) : List (Str × List Str) := d.steps.map fun s => (s.1, s.2.1)
def PlanD.gv (d : PlanD) : List (Str × List Str) := d.steps.map fun s => (s.1, s.2.2)
section
variable {fr : Fr} {Γ Γ' : Gam} {Θ : List Cel} {F F' H H' : Hp} {K : PySem.W.Frag} {C : Addr} {d : PlanD}
theorem strs_pvs {ws : List Str} (h : ∀ y ∈ ws, Asc y) : PVs zS F (ws.map V.str) ws := by
  induction ws with
  | nil => exact .nil
  | cons a ws ih => exact .cons ⟨rfl, h a (List.mem_cons_self ..)⟩ (ih fun y hy => h y (List.mem_cons_of_mem _ hy))
theorem ints_pvs {ws : List Int} : PVs zI F (ws.map V.int) ws := by
  induction ws with
  | nil => exact .nil
  | cons a ws ih => exact .cons rfl ih
theorem tab_kvs : ∀ {kvs : List (Key × V)} {rows : List (Str × List Str)}, TabAt F kvs rows → (∀ r ∈ rows, ∀ y ∈ r.2, Asc y) → KVs (zT zS) F kvs rows
  | _, _, .nil, _ => .nil
  | _, _, .cons ⟨h1, t, h2, h3⟩ r, h => .cons ⟨h1, t, _, h2, h3, strs_pvs (h _ (List.mem_cons_self ..))⟩ (tab_kvs r fun r' hr => h r' (List.mem_cons_of_mem _ hr))
/-- the class Plan, as the top left it -/
structure PlanK (K : PySem.W.Frag) (C : Addr) : Prop where
  cl : Cls K C
  nP : NoAttr K C "places"
  nB : NoAttr K C "begin"
  nT : NoAttr K C "taken"
  nG : NoAttr K C "given"
  nS : NoAttr K C "steps"
theorem fld_places (T : PlanK K C) : FldR K "places" (iz (zPlan C) d) (iz (zT zS) d.places) := fun F v ⟨x, h1, h2, h3⟩ => by
  obtain ⟨dx, tp, tb, td, tg, ts, kt, kg, p1, p2, p3, p4, p5, p6, p7, p8⟩ := h2.ex
  exact ⟨x, C, dx, _, _, h1, p1, T.cl, T.nP, rfl, tp, _, rfl, p2, strs_pvs fun y hy => (h3.pa y hy).asc⟩
theorem fld_begin (T : PlanK K C) : FldR K "begin" (iz (zPlan C) d) (iz (zT zI) d.begin) := fun F v ⟨x, h1, h2, h3⟩ => by
  obtain ⟨dx, tp, tb, td, tg, ts, kt, kg, p1, p2, p3, p4, p5, p6, p7, p8⟩ := h2.ex
  exact ⟨x, C, dx, _, _, h1, p1, T.cl, T.nB, rfl, tb, _, rfl, p3, ints_pvs⟩
theorem fld_steps (T : PlanK K C) : FldR K "steps" (iz (zPlan C) d) (iz (zT zS) d.names) := fun F v ⟨x, h1, h2, h3⟩ => by
  obtain ⟨dx, tp, tb, td, tg, ts, kt, kg, p1, p2, p3, p4, p5, p6, p7, p8⟩ := h2.ex
  refine ⟨x, C, dx, _, _, h1, p1, T.cl, T.nS, rfl, ts, _, rfl, p6, strs_pvs fun y hy => ?_⟩
  obtain ⟨r, hr, rfl⟩ := List.mem_map.mp hy
  exact (h3.st r hr).1.asc
theorem fld_taken (T : PlanK K C) : FldR K "taken" (iz (zPlan C) d) (iz (zD (zT zS)) d.tk) := fun F v ⟨x, h1, h2, h3⟩ => by
  obtain ⟨dx, tp, tb, td, tg, ts, kt, kg, p1, p2, p3, p4, p5, p6, p7, p8⟩ := h2.ex
  refine ⟨x, C, dx, _, _, h1, p1, T.cl, T.nT, rfl, td, kt, rfl, p4, tab_kvs p7 fun r hr y hy => ?_⟩
  obtain ⟨s, hs, rfl⟩ := List.mem_map.mp hr
  exact (h3.pa y (h3.tk hs hy)).asc
theorem fld_given (T : PlanK K C) : FldR K "given" (iz (zPlan C) d) (iz (zD (zT zS)) d.gv) := fun F v ⟨x, h1, h2, h3⟩ => by
  obtain ⟨dx, tp, tb, td, tg, ts, kt, kg, p1, p2, p3, p4, p5, p6, p7, p8⟩ := h2.ex
  refine ⟨x, C, dx, _, _, h1, p1, T.cl, T.nG, rfl, tg, kg, rfl, p5, tab_kvs p8 fun r hr y hy => ?_⟩
  obtain ⟨s, hs, rfl⟩ := List.mem_map.mp hr
  exact (h3.pa y (h3.gv hs hy)).asc
/-- a plan is an instance; none of these is a field of it -/
theorem ins_plan {m : Str} (hm : ([("places", (0 : Nat)), ("begin", 0), ("taken", 0), ("given", 0), ("steps", 0)] : List (Str × Nat)).lookup m = none) : InsP fr Θ (iz (zPlan C) d) C m := fun F H v ok ⟨x, h1, h2, h3⟩ => by
  obtain ⟨dx, tp, tb, td, tg, ts, kt, kg, p1, p2, p3, p4, p5, p6, p7, p8⟩ := h2.ex
  refine ⟨x, dx, _, h1, ok.fh _ _ p1, ?_⟩
  simp only [List.lookup_cons] at hm ⊢
  revert hm
  cases (m == ("places" : Str)) <;> cases (m == ("begin" : Str)) <;> cases (m == ("taken" : Str)) <;> cases (m == ("given" : Str)) <;> cases (m == ("steps" : Str)) <;> simp
theorem PlanOk.tkn {d : PlanD} : d.tk.map (·.1) = d.names := by
  unfold PlanD.tk PlanD.names
  rw [List.map_map]
  rfl
theorem PlanOk.gvn {d : PlanD} : d.gv.map (·.1) = d.names := by
  unfold PlanD.gv PlanD.names
  rw [List.map_map]
  rfl
theorem PlanOk.tkr (h : PlanOk d) {r : SRow} (hr : r ∈ d.steps) : getR d.tk r.1 = some r.2.1 := getR_nodup (by rw [PlanOk.tkn]; exact h.sn) (List.mem_map.mpr ⟨r, hr, rfl⟩)
theorem PlanOk.gvr (h : PlanOk d) {r : SRow} (hr : r ∈ d.steps) : getR d.gv r.1 = some r.2.2 := getR_nodup (by rw [PlanOk.gvn]; exact h.sn) (List.mem_map.mpr ⟨r, hr, rfl⟩)
/-- what a name's holding says -/
theorem kn_fact {i : Nat} {p : Vp} {A : Prop} {P : L2.St → Hp → Prop} (hi : Γ[i]? = some (some p)) (hA : ∀ F v, p.p F v → A) (k : A → Kn fr Γ Θ P) : Kn fr Γ Θ P := fun σ F H ok env => by
  obtain ⟨v, _, h2⟩ := env.get hi
  exact k (hA F v h2) σ F H ok env
theorem plan_ok {F : Hp} {v : V} (h : (iz (zPlan C) d).p F v) : PlanOk d := by
  obtain ⟨_, _, _, h⟩ := h
  exact h
/-- all that is new is frozen -/
def newF (F H H' : Hp) : Hp := fun a => match H a with
  | none => H' a
  | some _ => F a
theorem newF_of (fh : Same F H) (hh : Same H H') : Same F (newF F H H') ∧ Same (newF F H H') H' ∧ Newer F H (newF F H H') := by
  refine ⟨fun a o h => ?_, fun a o h => ?_, fun a o h => ?_⟩
  · unfold newF
    rw [fh a o h]
    exact h
  · unfold newF at h
    cases q : H a with
    | none => rw [q] at h; exact h
    | some u => rw [q] at h; exact hh _ _ (fh _ _ h)
  · unfold newF at h
    cases q : H a with
    | none => exact .inr (.inl q)
    | some u => rw [q] at h; exact .inl ⟨o, h⟩
theorem newF_at {a : Addr} {o : HO} (n : H a = none) (h : H' a = some o) : newF F H H' a = some o := by
  unfold newF
  rw [n]
  exact h
end
/-- the class Plan and its name -/
structure PlanC (K : PySem.W.Frag) (mg : Str → Option Value) (C : Addr) : Prop where
  cl : Cls K C
  gC : mg "Plan" = some (.ref C)
  nP : NoAttr K C "places"
  nB : NoAttr K C "begin"
  nT : NoAttr K C "taken"
  nG : NoAttr K C "given"
  nS : NoAttr K C "steps"
section
variable {K : PySem.W.Frag} {mg : Str → Option Value} {C : Addr} {fr : Fr} {Θ : List Cel} {d : PlanD}
theorem PlanC.k (T : PlanC K mg C) : PlanK K C := ⟨T.cl, T.nP, T.nB, T.nT, T.nG, T.nS⟩
theorem fldP_places (T : PlanC K mg C) : FldP fr Θ K "places" (iz (zPlan C) d) (iz (zT zS) d.places) := (fld_places T.k).p
theorem fldP_begin (T : PlanC K mg C) : FldP fr Θ K "begin" (iz (zPlan C) d) (iz (zT zI) d.begin) := (fld_begin T.k).p
theorem fldP_steps (T : PlanC K mg C) : FldP fr Θ K "steps" (iz (zPlan C) d) (iz (zT zS) d.names) := (fld_steps T.k).p
theorem fldP_taken (T : PlanC K mg C) : FldP fr Θ K "taken" (iz (zPlan C) d) (iz (zD (zT zS)) d.tk) := (fld_taken T.k).p
theorem fldP_given (T : PlanC K mg C) : FldP fr Θ K "given" (iz (zPlan C) d) (iz (zD (zT zS)) d.gv) := (fld_given T.k).p
end
/-! shapes -/
theorem is_var {fr : Fr} {Γ : Gam} {Θ : List Cel} {K : Vp → List Cel → Prop} {i : Nat} (h : We fr Γ Θ (tVar i) K) : We fr Γ Θ (tVar i) K := h
theorem is_cS {fr : Fr} {Γ : Gam} {Θ : List Cel} {K : Vp → List Cel → Prop} {z : Str} (h : We fr Γ Θ (tC (.str z)) K) : We fr Γ Θ (tC (.str z)) K := h
theorem asc_of {z : Str} (h : (z.cps.toList.all fun c => decide (c < 128)) = true) : Asc z := fun c hc => of_decide_eq_true (List.all_eq_true.mp h c hc)
end L2

set_option Elab.async false
set_option linter.all false
set_option maxRecDepth 100000
set_option maxHeartbeats 4000000
/-! The ground: further comprehensions. -/
namespace L2
open PySem PySem.Spec PyProof.Rows PySem.HErr
section
variable {fr : Fr} {Γ Γ' : Gam} {Θ : List Cel} {F F' H H' : Hp} {K : Vp → List Cel → Prop} {Q : VK}
theorem wipe_sub {σ σ' : L2.St} {vs us : List Nat} (h : L2.wipe σ' vs = L2.wipe σ vs) (hs : ∀ v ∈ vs, v ∈ us) : L2.wipe σ' us = L2.wipe σ us := by
  have hl : σ'.length = σ.length := by
    have := congrArg List.length h
    rw [wipe_length, wipe_length] at this
    exact this
  apply List.ext_getElem?
  intro j
  have hj : (L2.wipe σ' vs)[j]? = (L2.wipe σ vs)[j]? := by rw [h]
  rw [wipe_get, wipe_get] at hj ⊢
  rw [hl] at hj ⊢
  by_cases h1 : j ∈ us ∧ j < σ.length
  · rw [if_pos h1, if_pos h1]
  · rw [if_neg h1, if_neg h1]
    have h2 : ¬ (j ∈ vs ∧ j < σ.length) := fun q => h1 ⟨hs j q.1, q.2⟩
    rw [if_neg h2, if_neg h2] at hj
    exact hj
theorem TgR.sub {g : TG} {vs us : List Nat} {p : Vp} (h : TgR g vs p Γ Γ') (hs : ∀ v ∈ vs, v ∈ us) : TgR g us p Γ Γ' := fun σ F H v fh env hp Q q => h σ F H v fh env hp Q fun σ' e hw => q σ' e (wipe_sub hw hs)
/-- [e for x in xs] -/
theorem we_lc0 {α β : Type} {r : Rep α} {s : Rep β} {xs : List α} {f : α → β} {wi : TI} {g : TG} {te : TE} {vs : List Nat} {Γ2 : α → Gam}
    (it : Wi fr Γ Θ wi fun its Θ1 => its = xs.map (iz r) ∧ Θ1 = Θ) (hl : xs.length ≤ 1000) (tg : ∀ x, TgR g vs (iz r x) (wipeG Γ vs) (Γ2 x))
    (he : ∀ x ∈ xs, ∀ c, Ev fr (Γ2 x) (c :: Θ) te (iz s (f x))) (k : K (iz (zL s) (xs.map f)) Θ) : We fr Γ Θ (tLc wi g tYes te vs) K :=
  we_lc (pr := fun _ => true) it hl tg (fun x hx c => wt_yes ⟨rfl, rfl⟩) (fun x hx _ c => he x hx c) (by
    rw [List.filter_eq_self.mpr fun _ _ => rfl]
    exact k)
/-- [e for x in xs], each entry found by its own way -/
theorem we_lcR0 {α β : Type} {r : Rep α} {s : Rep β} {xs : List α} {R : α → β → Prop} {wi : TI} {g : TG} {te : TE} {vs : List Nat} {Γ2 : α → Gam}
    (it : Wi fr Γ Θ wi fun its Θ1 => its = xs.map (iz r) ∧ Θ1 = Θ) (hl : xs.length ≤ 1000) (tg : ∀ x, TgR g vs (iz r x) (wipeG Γ vs) (Γ2 x))
    (he : ∀ x ∈ xs, ∀ c, We fr (Γ2 x) (c :: Θ) te fun q Θ' => Θ' = c :: Θ ∧ ∃ y, R x y ∧ q = iz s y) (k : ∀ ys, Paired R xs ys → K (iz (zL s) ys) Θ) : We fr Γ Θ (tLc wi g tYes te vs) K :=
  we_lcR (pr := fun _ => true) it hl tg (fun x hx c => wt_yes ⟨rfl, rfl⟩) (fun x hx _ c => he x hx c) fun ys h => by
    rw [List.filter_eq_self.mpr fun _ _ => rfl] at h
    exact k ys h
theorem flat_len {α β : Type} (f : α → List β) {l m : List α} (h : l.Sublist m) : (l.flatMap f).length ≤ (m.flatMap f).length := by
  induction h with
  | slnil => exact Nat.le_refl _
  | cons a _ ih => rw [List.flatMap_cons, List.length_append]; omega
  | cons_cons a _ ih => rw [List.flatMap_cons, List.flatMap_cons, List.length_append, List.length_append]; omega
/-- [e for x in xs if c for y in ys(x) if c'] -/
theorem we_lc2 {α β γ : Type} {r : Rep α} {r1 : Rep γ} {s : Rep β} {xs : List α} {pr : α → Bool} {ys : α → List γ} {pr1 : α → γ → Bool} {f : α → γ → β} {wi wi1 : TI} {g g1 : TG} {tt tt1 : TT} {te : TE} {vs vs1 : List Nat} {Γ2 : α → Gam} {Γ3 : α → γ → Gam}
    (it : Wi fr Γ Θ wi fun its Θ1 => its = xs.map (iz r) ∧ Θ1 = Θ) (tg : ∀ x, TgR g vs (iz r x) (wipeG Γ vs) (Γ2 x)) (ht : ∀ x ∈ xs, ∀ c, Et fr (Γ2 x) (c :: Θ) tt (pr x))
    (it1 : ∀ x ∈ xs, pr x = true → ∀ c, Wi fr (Γ2 x) (c :: Θ) wi1 fun its Θ1 => its = (ys x).map (iz r1) ∧ Θ1 = c :: Θ) (tg1 : ∀ x y, TgR g1 vs1 (iz r1 y) (wipeG (Γ2 x) vs1) (Γ3 x y))
    (ht1 : ∀ x ∈ xs, pr x = true → ∀ y ∈ ys x, ∀ c, Et fr (Γ3 x y) (c :: Θ) tt1 (pr1 x y)) (he : ∀ x ∈ xs, pr x = true → ∀ y ∈ ys x, pr1 x y = true → ∀ c, Ev fr (Γ3 x y) (c :: Θ) te (iz s (f x y)))
    (hl : ((xs.filter pr).flatMap fun x => ((ys x).filter (pr1 x)).map (f x)).length ≤ 1000) (k : K (iz (zL s) ((xs.filter pr).flatMap fun x => ((ys x).filter (pr1 x)).map (f x))) Θ) : We fr Γ Θ (tLc2 wi g tt wi1 g1 tt1 te vs vs1) K := fun σ F H ok env Q q => by
  refine it σ F H ok env _ fun its Θ1 ⟨e1, e2⟩ J F1 H1 s1 ok1 jok => ?_
  subst e1 e2
  intro D nD
  generalize hres : (fun i => ((xs.take i).filter pr).flatMap fun x => ((ys x).filter (pr1 x)).map (f x)) = res
  have hr0 : res 0 = [] := by rw [← hres]; rfl
  have hrs : ∀ {i : Nat} {x : α}, xs[i]? = some x → res (i + 1) = res i ++ if pr x = true then ((ys x).filter (pr1 x)).map (f x) else [] := fun {i x} hx => by
    rw [← hres]
    dsimp only
    rw [take_more hx, List.filter_append, List.flatMap_append, List.filter_cons]
    split
    · rw [List.filter_nil, List.flatMap_cons, List.flatMap_nil, List.append_nil]
    · rw [List.filter_nil, List.flatMap_nil]
  have hrl : ∀ i, (res i).length ≤ (res xs.length).length := fun i => by
    rw [← hres]
    dsimp only
    rw [List.take_length]
    have : ((xs.take i).filter pr).Sublist (xs.filter pr) := List.Sublist.filter pr (List.take_sublist i xs)
    exact flat_len _ this
  have hrn : res xs.length = (xs.filter pr).flatMap fun x => ((ys x).filter (pr1 x)).map (f x) := by
    rw [← hres]
    dsimp only
    rw [List.take_length]
  rw [← hrn] at hl k
  refine ⟨fun i m H' => m = xs.length - i ∧ i ≤ xs.length ∧ ∃ F2, Same F1 F2 ∧ OkF fr (cL D s (res i) :: Θ1) F2 H', ⟨xs.length, by simp, Nat.zero_le _, F1, Same.refl _, by rw [hr0]; exact ok1.mkOwn (c := cL D s []) nD rfl ⟨[], rfl, .nil⟩⟩, ?_⟩
  rintro i m H' ⟨rfl, hi, F2, s2, ok2⟩
  obtain ⟨j1, j2⟩ := jok F2 H' s2 ok2.fh
  by_cases hlt : i < xs.length
  · have hx : xs[i]? = some xs[i] := List.getElem?_eq_getElem hlt
    generalize xs[i] = x at hx
    have hm := List.mem_of_getElem? hx
    obtain ⟨jg, jy⟩ := j1 i (iz r x) (by rw [List.getElem?_map, hx]; rfl)
    refine .inr ⟨jg, fun H3 => ∃ F3, Same F1 F3 ∧ OkF fr (cL D s (res (i + 1)) :: Θ1) F3 H3, fun H3 p => ⟨xs.length - (i + 1), by omega, rfl, hlt, p⟩, fun v H3 y => ?_⟩
    obtain ⟨F3, e1, e2, e3, e4, e5⟩ := jy v H3 y
    have ok3 := ok2.grow e2 e1 e3 e4
    have s3 := s2.trans e1
    refine tg x (L2.wipe σ vs) F3 H3 v ok3.fh ((env.mono (s1.trans s3)).wipe vs) e5 _ fun σ2 env2 hw => ⟨by rw [hw, wipe_idem], ?_⟩
    have et := hrs hx
    refine ht x hm _ σ2 F3 H3 ok3 env2 _ fun b Θ2 ⟨e6, e7⟩ F4 H4 s4 ok4 => ?_
    subst e6 e7
    by_cases hb : pr x = true
    · rw [if_pos hb]
      rw [if_pos hb] at et
      refine it1 x hm hb _ σ2 F4 H4 ok4 (env2.mono s4) _ fun its1 Θ3 ⟨e8, e9⟩ J1 F5 H5 s5 ok5 jok1 => ?_
      subst e8 e9
      refine ⟨fun j m H6 => m = (ys x).length - j ∧ j ≤ (ys x).length ∧ ∃ F6, Same F5 F6 ∧ OkF fr (cL D s (res i ++ (((ys x).take j).filter (pr1 x)).map (f x)) :: Θ1) F6 H6, ⟨(ys x).length, by simp, Nat.zero_le _, F5, Same.refl _, by rw [List.take_zero, List.filter_nil, List.map_nil, List.append_nil]; exact ok5⟩, ?_⟩
      rintro j m H6 ⟨rfl, hj, F6, s6, ok6⟩
      obtain ⟨k1, k2⟩ := jok1 F6 H6 s6 ok6.fh
      by_cases hjl : j < (ys x).length
      · have hy : (ys x)[j]? = some (ys x)[j] := List.getElem?_eq_getElem hjl
        generalize (ys x)[j] = z at hy
        have hmz := List.mem_of_getElem? hy
        obtain ⟨kg, ky⟩ := k1 j (iz r1 z) (by rw [List.getElem?_map, hy]; rfl)
        refine .inr ⟨kg, fun H7 => ∃ F7, Same F5 F7 ∧ OkF fr (cL D s (res i ++ (((ys x).take (j + 1)).filter (pr1 x)).map (f x)) :: Θ1) F7 H7, fun H7 p => ⟨(ys x).length - (j + 1), by omega, rfl, hjl, p⟩, fun v2 H7 y2 => ?_⟩
        obtain ⟨F7, g1', g2', g3', g4', g5'⟩ := ky v2 H7 y2
        have ok7 := ok6.grow g2' g1' g3' g4'
        have s7 := s6.trans g1'
        refine tg1 x z (L2.wipe σ2 vs1) F7 H7 v2 ok7.fh ((((env2.mono s4).mono s5).mono s7).wipe vs1) g5' _ fun σ3 env3 hw3 => ⟨by rw [hw3, wipe_idem], ?_⟩
        have et2 : ((ys x).take (j + 1)).filter (pr1 x) = ((ys x).take j).filter (pr1 x) ++ if pr1 x z = true then [z] else [] := by
          rw [take_more hy, List.filter_append, List.filter_cons]
          rfl
        refine ht1 x hm hb z hmz _ σ3 F7 H7 ok7 env3 _ fun b2 Θ4 ⟨f1, f2⟩ F8 H8 s8 ok8 => ?_
        subst f1 f2
        by_cases hb2 : pr1 x z = true
        · rw [if_pos hb2]
          rw [if_pos hb2] at et2
          refine he x hm hb z hmz hb2 _ σ3 F8 H8 ok8 (env3.mono s8) _ fun p Θ5 ⟨f3, f4⟩ u F9 H9 s9 ok9 hp => ?_
          subst f3 f4
          obtain ⟨_, ⟨o, h2, acc, rfl, h4⟩, _⟩ := ok9.ce _ (List.mem_cons_self ..)
          have ok10 := ok9.mut (i := 0) (c := cL D s (res i ++ (((ys x).take j).filter (pr1 x)).map (f x))) (c' := cL D s (res i ++ (((ys x).take (j + 1)).filter (pr1 x)).map (f x))) (o := .lst (acc ++ [u])) rfl rfl rfl ⟨_, rfl, by
            rw [et2, List.map_append, ← List.append_assoc]
            exact PySem.Paired.snoc h4 hp⟩
          refine ⟨acc, h2, ?_, F9, (s7.trans s8).trans s9, ok10⟩
          rw [Paired.len h4]
          have a1 := hrl (i + 1)
          rw [et, List.length_append, List.length_map] at a1
          have a2 : ((((ys x).take j).filter (pr1 x))).length ≤ ((ys x).filter (pr1 x)).length := (List.Sublist.filter (pr1 x) (List.take_sublist j (ys x))).length_le
          rw [List.length_append, List.length_map]
          exact small1000 (by omega)
        · rw [if_neg hb2]
          rw [if_neg hb2, List.append_nil] at et2
          exact ⟨F8, s7.trans s8, by rw [et2]; exact ok8⟩
      · have ej : j = (ys x).length := by omega
        subst ej
        rw [List.take_length, ← et] at ok6
        exact .inl ⟨by rw [List.length_map] at k2; exact k2, F6, ((s3.trans s4).trans s5).trans s6, ok6⟩
    · rw [if_neg hb]
      rw [if_neg hb, List.append_nil] at et
      exact ⟨F4, s3.trans s4, by rw [et]; exact ok4⟩
  · have e : i = xs.length := by omega
    subst e
    obtain ⟨_, ⟨o, h2, acc, rfl, h4⟩, _⟩ := ok2.ce _ (List.mem_cons_self ..)
    have ok3 := ok2.frz (i := 0) (c := cL D s (res xs.length)) rfl rfl h2
    have sD : Same F2 (upd F2 D (.lst acc)) := same_upd (ok2.ce _ (List.mem_cons_self ..)).1
    refine .inl ⟨by rw [List.length_map] at j2; exact j2, q _ _ k _ _ H' ((s1.trans s2).trans sD) ok3 ⟨D, acc, rfl, upd_same, Paired.imp2 (fun _ _ h => s.mono sD h) h4⟩⟩
/-- a cell's entries are walked -/
theorem it_of {α : Type} {r : Rep α} {xs : List α} {wi : TI} (w : Wi fr Γ Θ wi fun its Θ1 => its = xs.map (iz r) ∧ Θ1 = Θ) : Wi fr Γ Θ wi fun its Θ1 => its = xs.map (iz r) ∧ Θ1 = Θ := w
theorem we_nil {α : Type} (r : Rep α) (k : ∀ a, K (zAt a) (cL a r [] :: Θ)) : We fr Γ Θ (tLst tNil) K := we_own r (wa_nil ⟨[], rfl, by decide, k⟩)
theorem we_nilF {α : Type} (r : Rep α) (k : K (iz (zL r) []) Θ) : We fr Γ Θ (tLst tNil) K := we_lst (r := r) (wa_nil ⟨[], rfl, by decide, k⟩)
theorem we_lst1 {α : Type} {r : Rep α} {x : α} {t : TE} (w : We fr Γ Θ t fun p Θ1 => p = iz r x ∧ K (iz (zL r) [x]) Θ1) : We fr Γ Θ (tLst (tCons t tNil)) K := we_lst (r := r) (wa_cons (w.imp fun p Θ1 ⟨e, k⟩ => wa_nil ⟨[x], by rw [e]; rfl, by simp, k⟩))
/-- [e for x in xs for y in ys(x)] -/
theorem we_lc20 {α β γ : Type} {r : Rep α} {r1 : Rep γ} {s : Rep β} {xs : List α} {ys : α → List γ} {f : α → γ → β} {wi wi1 : TI} {g g1 : TG} {te : TE} {vs vs1 : List Nat} {Γ2 : α → Gam} {Γ3 : α → γ → Gam}
    (it : Wi fr Γ Θ wi fun its Θ1 => its = xs.map (iz r) ∧ Θ1 = Θ) (tg : ∀ x, TgR g vs (iz r x) (wipeG Γ vs) (Γ2 x))
    (it1 : ∀ x ∈ xs, ∀ c, Wi fr (Γ2 x) (c :: Θ) wi1 fun its Θ1 => its = (ys x).map (iz r1) ∧ Θ1 = c :: Θ) (tg1 : ∀ x y, TgR g1 vs1 (iz r1 y) (wipeG (Γ2 x) vs1) (Γ3 x y))
    (he : ∀ x ∈ xs, ∀ y ∈ ys x, ∀ c, Ev fr (Γ3 x y) (c :: Θ) te (iz s (f x y)))
    (hl : (xs.flatMap fun x => (ys x).map (f x)).length ≤ 1000) (k : K (iz (zL s) (xs.flatMap fun x => (ys x).map (f x))) Θ) : We fr Γ Θ (tLc2 wi g tYes wi1 g1 tYes te vs vs1) K := by
  have e : ((xs.filter fun _ => true).flatMap fun x => ((ys x).filter fun _ => true).map (f x)) = xs.flatMap fun x => (ys x).map (f x) := by
    rw [List.filter_eq_self.mpr fun _ _ => rfl]
    congr 1
    funext x
    rw [List.filter_eq_self.mpr fun _ _ => rfl]
  exact we_lc2 (pr := fun _ => true) (pr1 := fun _ _ => true) it tg (fun _ _ _ => wt_yes ⟨rfl, rfl⟩) (fun x hx _ c => it1 x hx c) tg1 (fun _ _ _ _ _ _ => wt_yes ⟨rfl, rfl⟩) (fun x hx _ y hy _ c => he x hx y hy c) (by rw [e]; exact hl) (by rw [e]; exact k)
theorem mem_intsF {n : Nat} {k : Int} (h : k ∈ intsF 0 n) : ∃ j : Nat, j < n ∧ k = j := by
  unfold intsF at h
  obtain ⟨j, hj, e⟩ := List.mem_map.mp h
  exact ⟨j, List.mem_range.mp hj, by omega⟩
theorem flat_le {α β : Type} {f : α → List β} {m : Nat} : ∀ {l : List α}, (∀ x ∈ l, (f x).length ≤ m) → (l.flatMap f).length ≤ l.length * m
  | [], _ => by simp
  | a :: l, h => by
    rw [List.flatMap_cons, List.length_append, List.length_cons, Nat.succ_mul]
    have h1 := h a (List.mem_cons_self ..)
    have h2 := flat_le (f := f) (l := l) fun x hx => h x (List.mem_cons_of_mem _ hx)
    omega
end
end L2

set_option Elab.async false
set_option linter.all false
set_option maxRecDepth 100000
set_option maxHeartbeats 4000000
/-! The ground: lists of lists of one's own; truth of values; entering and leaving the old layer. -/
namespace L2
open PySem PySem.Spec PyProof.Rows PySem.HErr
/-- an address, as a value -/
def zRef : Rep Addr := ⟨fun _ v x => v = .ref x, fun _ h => h⟩
section
variable {fr : Fr} {Γ Γ' : Gam} {Θ Θ' : List Cel} {F F' H H' : Hp} {K : Vp → List Cel → Prop} {Q : VK}
theorem OkF.perm (k : OkF fr Θ F H) (p : Θ.Perm Θ') : OkF fr Θ' F H := ⟨k.fh, k.f0, k.nw, k.h0, k.al, (p.map Cel.a).nodup_iff.mp k.nd, fun c hc => k.ce c (p.mem_iff.mpr hc)⟩
theorem Kn.perm {P : L2.St → Hp → Prop} (k : Kn fr Γ Θ' P) (p : Θ.Perm Θ') : Kn fr Γ Θ P := fun σ F H ok env => k σ F H (ok.perm p) env
theorem OkF.less {c : Cel} (k : OkF fr (c :: Θ) F H) : OkF fr Θ F H := ⟨k.fh, k.f0, k.nw, k.h0, k.al, (List.nodup_cons.mp k.nd).2, fun d hd => k.ce d (List.mem_cons_of_mem _ hd)⟩
/-- a cell is let go -/
theorem Kn.less {P : L2.St → Hp → Prop} {c : Cel} (k : Kn fr Γ Θ P) : Kn fr Γ (c :: Θ) P := fun σ F H ok env => k σ F H ok.less env
def cells {α : Type} (r : Rep α) (as : List Addr) (ls : List (List α)) : List Cel := (as.zip ls).map fun x => cL x.1 r x.2
theorem cells_get {α : Type} {r : Rep α} {as : List Addr} {ls : List (List α)} {j : Nat} {a : Addr} {l : List α} (h1 : as[j]? = some a) (h2 : ls[j]? = some l) : (cells r as ls)[j]? = some (cL a r l) := by
  unfold cells
  rw [List.getElem?_map, List.getElem?_zip_eq_some (z := (a, l)) |>.mpr ⟨h1, h2⟩]
  rfl
theorem cells_set {α : Type} {r : Rep α} {a : Addr} {l : List α} : ∀ {as : List Addr} {ls : List (List α)} {j : Nat}, as[j]? = some a → (cells r as ls).set j (cL a r l) = cells r as (ls.set j l)
  | [], _, _, h => by simp at h
  | _ :: _, [], _, _ => rfl
  | x :: as, y :: ls, 0, h => by cases h; rfl
  | x :: as, y :: ls, j + 1, h => by
    show cL x r y :: (cells r as ls).set j (cL a r l) = cL x r y :: cells r as (ls.set j l)
    rw [cells_set (as := as) (ls := ls) (j := j) h]
theorem cells_snoc {α : Type} {r : Rep α} {a : Addr} {l : List α} {as : List Addr} {ls : List (List α)} (h : as.length = ls.length) : cells r (as ++ [a]) (ls ++ [l]) = cells r as ls ++ [cL a r l] := by
  unfold cells
  rw [List.zip_append h, List.map_append]
  rfl
theorem cells_own {α : Type} {r : Rep α} {as : List Addr} {ls : List (List α)} {c : Cel} (h : c ∈ cells r as ls) : c.own = true := by
  obtain ⟨x, _, rfl⟩ := List.mem_map.mp h
  rfl
theorem okf_frzN {α : Type} {r : Rep α} : ∀ {as : List Addr} {ls : List (List α)} {F : Hp}, as.length = ls.length → OkF fr (cells r as ls ++ Θ) F H → ∃ F', Same F F' ∧ OkF fr Θ F' H ∧ Paired (fun a l => (zL r).p F' (.ref a) l) as ls
  | [], [], F, _, ok => ⟨F, Same.refl F, ok, .nil⟩
  | [], _ :: _, _, h, _ => by cases h
  | _ :: _, [], _, h, _ => by cases h
  | a :: as, l :: ls, F, h, ok => by
    have ok : OkF fr (cL a r l :: (cells r as ls ++ Θ)) F H := ok
    obtain ⟨h0, ⟨o, h2, vs, rfl, h4⟩, _⟩ := ok.ce _ (List.mem_cons_self ..)
    have h0 : F a = none := h0
    have h2 : H a = some (.lst vs) := h2
    have ok2 := ok.frz (i := 0) (c := cL a r l) rfl rfl h2
    have s2 : Same F (upd F a (.lst vs)) := same_upd h0
    obtain ⟨F', s3, ok3, p3⟩ := okf_frzN (as := as) (ls := ls) (by simpa using h) ok2
    refine ⟨F', s2.trans s3, ok3, .cons ⟨a, vs, rfl, s3 _ _ upd_same, Paired.imp2 (fun _ _ h => r.mono (s2.trans s3) h) h4⟩ p3⟩
theorem kn_frzN {α : Type} {r : Rep α} {G : Addr} {ga : List Addr} {ls : List (List α)} {i : Nat} {P : L2.St → Hp → Prop} (hi : Γ[i]? = some (some (zAt G))) (hp : Θ.Perm (cells r ga ls ++ cL G zRef ga :: Θ')) (hl : ga.length = ls.length) (k : Kn fr (Γ.set i (some (iz (zL (zL r)) ls))) Θ' P) : Kn fr Γ Θ P := fun σ F H ok env => by
  obtain ⟨F1, s1, ok1, p1⟩ := okf_frzN hl (ok.perm hp)
  obtain ⟨v, h1, h2⟩ := env.get hi
  have h2 : v = .ref G := h2
  subst h2
  obtain ⟨h0, ⟨o, h3, vs, rfl, h5⟩, _⟩ := ok1.ce _ (List.mem_cons_self ..)
  have h0 : F1 G = none := h0
  have h3 : H G = some (.lst vs) := h3
  have ok2 := ok1.frz (i := 0) (c := cL G zRef ga) rfl rfl h3
  have s2 : Same F1 (upd F1 G (.lst vs)) := same_upd h0
  have e : σ.set i (some (V.ref G)) = σ := by
    apply List.ext_getElem?
    intro m
    rw [List.getElem?_set]
    split
    · rename_i q
      subst q
      rw [if_pos (List.getElem?_eq_some_iff.mp h1).1, h1]
    · rfl
  have pv : ∀ {vs : List V} {ga : List Addr} {ls : List (List α)}, PVs zRef F1 vs ga → Paired (fun a l => (zL r).p F1 (.ref a) l) ga ls → PVs (zL r) (upd F1 G (.lst vs)) vs ls := by
    intro vs ga ls h
    have : ∀ {F2 : Hp}, Same F1 F2 → ∀ {ls : List (List α)}, Paired (fun a l => (zL r).p F1 (.ref a) l) ga ls → PVs (zL r) F2 vs ls := by
      intro F2 s2
      induction h with
      | nil => intro ls q; cases q; exact .nil
      | cons a _ ih => intro ls q; cases q with
        | cons b c =>
          have a : _ = V.ref _ := a
          subst a
          exact .cons ((zL r).mono s2 b) (ih c)
    exact this (same_upd h0)
  have := ((env.mono s1).mono s2).set (i := i) (p := iz (zL (zL r)) ls) (v := .ref G) ⟨G, vs, rfl, upd_same, pv h5 p1⟩
  rw [e] at this
  exact k σ _ H ok2 this
theorem rt_frz0 {α : Type} {r : Rep α} {xs : List α} {a : Addr} {rt : VK} (k : Rt fr Θ rt (iz (zL r) xs)) : Rt fr (cL a r xs :: Θ) rt (zAt a) := rt_frz (j := 0) rfl k
/-- tuple unpacking of a list with two entries -/
theorem tgL2 {Kf : PySem.W.Frag} {i j : Nat} {α : Type} {r : Rep α} {x y : α} (hij : i ≠ j) (g : TG) (hg : ∀ v σ H Q, (∃ a xs, v = .ref a ∧ SqL Kf H a xs ∧ xs.length = 2 ∧ gCons (gName i) (gCons (gName j) gNil) xs σ H Q) → g v σ H Q) : TgR g [i, j] (iz (zL r) [x, y]) Γ ((Γ.set i (some (iz r x))).set j (some (iz r y))) := fun σ F H v fh env hp Q q => by
  obtain ⟨a, vs, rfl, h2, h3⟩ := hp
  cases h3 with
  | cons h4 h3 => cases h3 with
    | cons h5 h3 => cases h3 with
      | nil =>
        refine hg _ _ _ _ ⟨a, _, rfl, SqL.of (fh _ _ h2), rfl, _, _, rfl, _, _, rfl, rfl, q _ ((env.set (p := iz r x) h4).set (p := iz r y) h5) ?_⟩
        show ((((σ.set i (some _)).set j (some _)).set j none).set i none) = (σ.set j none).set i none
        rw [List.set_set, set_comm' hij, List.set_set]
end
end L2

set_option Elab.async false
set_option linter.all false
set_option maxRecDepth 100000
set_option maxHeartbeats 4000000
/-! The ground: instances that are being built. -/
namespace L2
open PySem PySem.Spec PyProof.Rows PySem.HErr
/-- an instance of one's own -/
def cI (a C dx : Addr) (fs : List (Str × Vp)) : Cel := ⟨a, true, fun F o => ∃ us, o = .ins C dx us ∧ FsOk F fs us, fun e ⟨us, h1, h2⟩ => ⟨us, h1, h2.mono e⟩, fun h e => by subst e; simp at h⟩
def putP (f : Str) (p : Vp) : List (Str × Vp) → List (Str × Vp)
  | [] => [(f, p)]
  | (g, q) :: r => if g = f then (g, p) :: r else (g, q) :: putP f p r
section
variable {fr : Fr} {Γ Γ' : Gam} {Θ Θ' : List Cel} {F F' H H' : Hp} {K : Vp → List Cel → Prop} {Q : VK}
theorem FsOk.put {f : Str} {p : Vp} {v : V} (hp : p.p F v) : ∀ {fs : List (Str × Vp)} {us : List (Str × V)}, FsOk F fs us → FsOk F (putP f p fs) (putF f v us)
  | _, _, .nil => .cons ⟨rfl, hp⟩ .nil
  | (g, q) :: fs, (g', u) :: us, .cons ⟨h1, h2⟩ r => by
    have h1 : g = g' := h1
    subst h1
    unfold putP putF
    by_cases e : g = f
    · rw [if_pos e, if_pos e]
      exact .cons ⟨rfl, hp⟩ r
    · rw [if_neg e, if_neg e]
      exact .cons ⟨rfl, h2⟩ (FsOk.put hp r)
/-- self.f = e -/
theorem kn_fldPut {Kf : PySem.W.Frag} {f : Str} {ta tv : TE} {D : Ends} (w : We fr Γ Θ tv fun p Θ1 => We fr Γ Θ1 ta fun q Θ2 => ∃ a C dx fs j, q = zAt a ∧ Θ2[j]? = some (cI a C dx fs) ∧ Cls Kf C ∧ NoAttr Kf C f ∧ fs.length < 1000 ∧ Kn fr Γ (Θ2.set j (cI a C dx (putP f p fs))) D.nx) : Kn fr Γ Θ (sFld Kf ta tv f D) := fun σ F H ok env =>
  w σ F H ok env _ fun p Θ1 k v F1 H1 s1 ok1 hp => k σ F1 H1 ok1 (env.mono s1) _ fun p2 Θ2 ⟨a, C, dx, fs, j, e, hj, hc, hn, hl, kk⟩ v2 F2 H2 s2 ok2 hp2 => by
    subst e
    obtain ⟨_, ⟨o, h2, us, rfl, h4⟩, _⟩ := ok2.ce _ (List.mem_of_getElem? hj)
    exact ⟨a, C, dx, us, hp2, h2, hc, hn, by rw [← Paired.len h4]; exact hl, kk σ F2 _ (ok2.mut hj rfl rfl ⟨_, rfl, h4.put (p.mono s2 hp)⟩) ((env.mono s1).mono s2)⟩
theorem fld_C {Kf : PySem.W.Frag} {f : Str} {a C dx : Addr} {fs : List (Str × Vp)} {q : Vp} (hc : cI a C dx fs ∈ Θ) (h3 : Cls Kf C) (h4 : NoAttr Kf C f) (h5 : fs.lookup f = some q) : FldP fr Θ Kf f (zAt a) q := fun F H v ok hv => by
  obtain ⟨_, ⟨o, h2, us, rfl, h6⟩, _⟩ := ok.ce _ hc
  obtain ⟨u, h7, h8⟩ := h6.look h5
  exact ⟨a, C, dx, us, u, hv, h2, h3, h4, h7, h8⟩
/-! ### __init__ -/
def minus (H : Hp) (x : Addr) : Hp := fun a => if a = x then none else H a
theorem minus_ne {x a : Addr} (h : a ≠ x) : minus H x a = H a := if_neg h
theorem minus_self {x : Addr} : minus H x x = none := if_pos rfl
/-- what __init__ promises: out tells what the instance at x then is -/
def spI (C : Addr) (pre : Pre) : Sp := fun vs H Q E => ∃ x dx vs' F ps out err, vs = .ref x :: vs' ∧ H x = some (.ins C dx []) ∧ F x = none ∧ Same F H ∧ Paired (fun (p : Vp) v => p.p F v) ps vs' ∧ pre ps out err ∧
  (∀ p, out p → ∀ F' H', Same (minus H x) H' → Same F F' → Same F' H' → Newer F (minus H x) F' → p.p F' (.ref x) → Q .non H') ∧ (∀ e, err e → ∀ F' H' d us, Same (minus H x) H' → Same F F' → Same F' H' → Newer F (minus H x) F' → F' d = some (.xd us) → FsOk F' e.fs us → E (.ref e.C) (some d) H')
theorem we_mk {C : Addr} {pre : Pre} {E : L2.St → XK} {t : TA} (w : Wa fr Γ Θ t fun ps Θ1 => ∃ out err, pre ps out err ∧ (∀ p, out p → K p Θ1) ∧ ∀ e, err e → Kr fr Γ Θ1 (fun cls d σ H => E σ cls d H) e) : We fr Γ Θ (tMkD C (spI C pre) E t) K := fun σ F H ok env Q q =>
  w σ F H ok env _ fun ps Θ1 ⟨out, err, hp, ko, ke⟩ vs F1 H1 s1 ok1 hps => fun x dx nx ndx ne => by
    have hs : Same H1 (upd (upd H1 dx (.own x)) x (.ins C dx [])) := (same_upd ndx).trans (same_upd (by rw [upd_ne (Ne.symm ne)]; exact nx))
    have hm : ∀ {H' : Hp}, Same (minus (upd (upd H1 dx (.own x)) x (.ins C dx [])) x) H' → Same H1 H' := fun h a o e => h a o (by rw [minus_ne (ne_of_none e nx)]; exact hs a o e)
    have hn : ∀ {F' : Hp}, Newer F1 (minus (upd (upd H1 dx (.own x)) x (.ins C dx [])) x) F' → Newer F1 H1 F' := fun h a o e => by
      rcases h a o e with h' | h'
      · exact .inl h'
      · refine .inr (h'.elim (fun h' => ?_) .inr)
        by_cases ea : a = x
        · rw [ea]; exact .inl nx
        · rw [minus_ne ea] at h'
          exact .inl (hs.free h')
    refine ⟨x, dx, vs, F1, ps, out, err, rfl, upd_same, ok1.fh.free nx, ok1.fh.trans hs, hps, hp, fun p ho F' H' hh ff fh nw hv => ⟨rfl, ?_⟩, fun e he F' H' d us hh ff fh nw hd hf => ?_⟩
    · exact q p Θ1 (ko p ho) _ F' H' (s1.trans ff) (ok1.grow (hm hh) ff fh (hn nw)) hv
    · exact ke e he σ F' H' (ok1.grow (hm hh) ff fh (hn nw)) ((env.mono s1).mono ff) d us hd hf
theorem okf_init {x C dx : Addr} (hx : H x = some (.ins C dx [])) (fx : F x = none) (fh : Same F H) : OkF ⟨F, minus H x, []⟩ [cI x C dx []] F H := by
  refine ⟨fh, Same.refl F, fun a o h => .inl ⟨o, h⟩, fun a o _ h => ?_, fun a o h => ?_, by simp, fun c hc => ?_⟩
  · have h : minus H x a = some o := h
    by_cases e : a = x
    · rw [e, minus_self] at h; cases h
    · rw [minus_ne e] at h; exact h
  · have h : minus H x a = some o := h
    by_cases e : a = x
    · rw [e, minus_self] at h; cases h
    · rw [minus_ne e] at h; exact ⟨o, h⟩
  · rw [List.mem_singleton.mp hc]
    exact ⟨fx, ⟨_, hx, [], rfl, .nil⟩, minus_self⟩
end
section
variable {P : Program} {w : World} {K : PySem.W.Frag} {mg : Str → Option Value} {base : Heap} {qual : Str} {C : Addr} {st : Stmt} {N ps : List Str} {k : Nat} {pre : Pre}
/-- the body of __init__: at its end the instance is what out says -/
theorem SrcI.okAX (F : SrcI K C qual st ps) (S : FnScope N ps (defScope st)) (len : ∀ qs out err, pre qs out err → qs.length + 1 = ps.length)
    (hbody : ∀ (f : Addr) (cdv : Value) (A : Around) (outer : List Env) (s : Shared) (H : Hp) (E : XK) (qs : List Vp) (out : Vp → Prop) (err : Er → Prop), Room k (A.deeper (envOfC qual (defScope st) s.heap.objs.size f cdv)) → pre qs out err →
      ∃ t, PSs (cxOf (L2.CX P w) P w K mg base N qual (defScope st) f cdv A outer s H E) (defBody st) t ∧ ∀ fr x dx (Q : L2.St → Hp → Prop) (rt : VK), (∀ p, out p → ∀ σ F H, (∃ Θ, OkF fr Θ F H) → p.p F (.ref x) → Q σ H) → (∀ p, out p → ∀ F H, (∃ Θ, OkF fr Θ F H) → p.p F (.ref x) → rt .non H) → Rse fr E err →
        Kn fr (envOf N (zAt x :: qs)) [cI x C dx []] (t { nx := Q, rt := rt })) : DefI P w K mg base (L2.CX P w) (k + 1) C ps (spI C pre) := by
  refine F.okX S (fun vs H Q E h => ?_) (fun f cdv A outer s H vs Q E hr h => ?_)
  · obtain ⟨x, dx, vs', F, qs, out, err, rfl, _, _, _, h2, h3, _⟩ := h
    rw [List.length_cons, ← Paired.len h2]
    exact len _ _ _ h3
  · obtain ⟨x, dx, vs', F, qs, out, err, rfl, hx, fx, fh, h2, h3, h4, h5⟩ := h
    obtain ⟨t, ht, hk⟩ := hbody f cdv A outer s H E qs out err hr h3
    have post : ∀ {Θ : List Cel} {F' H' : Hp}, OkF ⟨F, minus H x, []⟩ Θ F' H' → Same (minus H x) H' ∧ Same F F' ∧ Same F' H' ∧ Newer F (minus H x) F' := fun ok => ⟨fun a o h => ok.h0 a o (by simp) h, ok.f0, ok.fh, ok.nw⟩
    have c1 : ∀ p, out p → ∀ (σ : L2.St) F' H', (∃ Θ, OkF ⟨F, minus H x, []⟩ Θ F' H') → p.p F' (.ref x) → Q .non H' := fun p hp σ F' H' ⟨Θ, ok⟩ hv => by
      obtain ⟨a, b, c, d⟩ := post ok
      exact h4 p hp F' H' a b c d hv
    have c2 : Rse ⟨F, minus H x, []⟩ E err := fun e he Θ F' H' d us ok hd hf => by
      obtain ⟨a, b, c, n⟩ := post ok
      exact h5 e he F' H' d us a b c n hd hf
    exact ⟨t, ht, hk ⟨F, minus H x, []⟩ x dx (fun _ H' => Q .non H') Q c1 (fun p hp F' H' => c1 p hp [] F' H') c2 _ F H (okf_init hx fx fh) (env_start (vs := .ref x :: vs') (.cons rfl h2))⟩
end
/-! ### from the old promises -/
section
variable {F F' H H' : Hp} {E : XK} {err : Er → Prop}
/-- fields that are plain stand anywhere -/
theorem PErs.rais {C : Addr} {fs : List (Str × Vp)} {us : List (Str × V)} (h : PErs F H E err) (fh : Same F H) (he : err ⟨C, fs⟩) (hf : ∀ F', FsOk F' fs us) : Rais E H C us := fun H' d sm nd hd => by
  obtain ⟨n1, n2, n3⟩ := newF_of fh sm
  exact h _ he _ H' d us sm n1 n2 n3 (newF_at nd hd) (hf _)
theorem fs1S {f : Str} {z : Str} (h : Asc z) : ∀ F', FsOk F' [(f, iz zS z)] [(f, .str z)] := fun _ => .cons ⟨rfl, rfl, h⟩ .nil
theorem fs1I {f : Str} {n : Int} : ∀ F', FsOk F' [(f, iz zI n)] [(f, .int n)] := fun _ => .cons ⟨rfl, rfl⟩ .nil
theorem Post.flat {Q : VK} {out : Vp → Prop} {p : Vp} {v : V} (h : Post F H Q out) (fh : Same F H) (hp : out p) (hf : ∀ F', p.p F' v) (hh : Same H H') : Q v H' := h p hp v F H' hh (Same.refl F) (fh.trans hh) (Newer.refl _ _) (hf F)
theorem Post.new {Q : VK} {out : Vp → Prop} {p : Vp} {v : V} (h : Post F H Q out) (fh : Same F H) (hp : out p) (hh : Same H H') (hf : p.p (newF F H H') v) : Q v H' := by
  obtain ⟨n1, n2, n3⟩ := newF_of fh hh
  exact h p hp v _ H' hh n1 n2 n3 hf
end
end L2

set_option Elab.async false
set_option linter.all false
set_option maxRecDepth 100000
set_option maxHeartbeats 4000000
/-! The ground: promises of defs that get cells lent. -/
namespace L2
open PySem PySem.Spec PyProof.Rows PySem.HErr
def tagC (c : Cel) : Addr × Bool := (c.a, c.own)
def CellsAt (F H : Hp) (Θ : List Cel) : Prop := (Θ.map Cel.a).Nodup ∧ ∀ c ∈ Θ, F c.a = none ∧ ∃ o, H c.a = some o ∧ c.φ F o
def SameX (as : List Addr) (H H' : Hp) : Prop := ∀ a o, a ∉ as → H a = some o → H' a = some o
def minusL (H : Hp) (as : List Addr) : Hp := fun a => if a ∈ as then none else H a
abbrev PreC := List Vp → List Cel → (Vp → List Cel → Prop) → (Er → List Cel → Prop) → Prop
structure Eff (F H : Hp) (Θ : List Cel) (F' H' : Hp) (Θ' : List Cel) : Prop where
  hh : SameX (Θ.map Cel.a) H H'
  ff : Same F F'
  fh : Same F' H'
  nw : Newer F H F'
  ca : CellsAt F' H' Θ'
  tg : Θ'.map tagC = Θ.map tagC
def spC (pre : PreC) : Sp := fun vs H Q E => ∃ F ps Θ out err, Same F H ∧ CellsAt F H Θ ∧ Paired (fun (p : Vp) v => p.p F v) ps vs ∧ pre ps Θ out err ∧
  (∀ p Θ', out p Θ' → ∀ v F' H', Eff F H Θ F' H' Θ' → p.p F' v → Q v H') ∧ (∀ e Θ', err e Θ' → ∀ F' H' d us, Eff F H Θ F' H' Θ' → F' d = some (.xd us) → FsOk F' e.fs us → E (.ref e.C) (some d) H')
section
variable {fr : Fr} {Γ Γ' : Gam} {Θ Θ' Θl Θr : List Cel} {F F' H H' : Hp} {K : Vp → List Cel → Prop} {Q : VK}
theorem tag_a (h : Θ'.map tagC = Θ.map tagC) : Θ'.map Cel.a = Θ.map Cel.a := by
  have := congrArg (List.map Prod.fst) h
  rw [List.map_map, List.map_map] at this
  exact this
theorem tag_mem (h : Θ'.map tagC = Θ.map tagC) {c : Cel} (hc : c ∈ Θ') : ∃ d ∈ Θ, d.a = c.a ∧ d.own = c.own := by
  have : tagC c ∈ Θ.map tagC := by rw [← h]; exact List.mem_map.mpr ⟨c, hc, rfl⟩
  obtain ⟨d, hd, e⟩ := List.mem_map.mp this
  exact ⟨d, hd, (Prod.mk.inj e).1, (Prod.mk.inj e).2⟩
theorem OkF.cellsAt (k : OkF fr (Θl ++ Θr) F H) : CellsAt F H Θl := by
  have := k.nd
  rw [List.map_append, List.nodup_append] at this
  exact ⟨this.1, fun c hc => by
    obtain ⟨h1, h2, _⟩ := k.ce c (List.mem_append_left _ hc)
    exact ⟨h1, h2⟩⟩
theorem OkF.eff (k : OkF fr (Θl ++ Θr) F H) (e : Eff F H Θl F' H' Θ') : OkF fr (Θ' ++ Θr) F' H' := by
  have ea := tag_a e.tg
  have hB : ∀ c ∈ Θl ++ Θr, ∀ a o, a ∉ fr.B → fr.H0 a = some o → a ≠ c.a := fun c hc a o hb h q => by
    obtain ⟨_, _, h4⟩ := k.ce c hc
    cases ho : c.own with
    | true =>
      rw [if_pos ho] at h4
      rw [q, h4] at h
      cases h
    | false =>
      rw [if_neg (by rw [ho]; exact Bool.false_ne_true)] at h4
      rw [q] at hb
      exact hb h4
  have nl : ∀ a o, a ∉ fr.B → fr.H0 a = some o → a ∉ Θl.map Cel.a := fun a o hb h q => by
    obtain ⟨c, hc, e⟩ := List.mem_map.mp q
    exact hB c (List.mem_append_left _ hc) a o hb h e.symm
  refine ⟨e.fh, k.f0.trans e.ff, fun a o h => ?_, fun a o hb h => ?_, fun a o h => ?_, ?_, fun c hc => ?_⟩
  · exact k.nwr e.ff h (e.nw a o h)
  · exact e.hh a o (nl a o hb h) (k.h0 a o hb h)
  · by_cases q : a ∈ Θl.map Cel.a
    · rw [← ea] at q
      obtain ⟨c, hc, e1⟩ := List.mem_map.mp q
      obtain ⟨_, o', h', _⟩ := e.ca.2 c hc
      exact ⟨o', by rw [← e1]; exact h'⟩
    · obtain ⟨o', h'⟩ := k.al a o h
      exact ⟨o', e.hh a o' q h'⟩
  · rw [List.map_append, ea, ← List.map_append]
    exact k.nd
  · rcases List.mem_append.mp hc with hc | hc
    · obtain ⟨h1, h2⟩ := e.ca.2 c hc
      refine ⟨h1, h2, ?_⟩
      obtain ⟨d, hd, e1, e2⟩ := tag_mem e.tg hc
      have := (k.ce d (List.mem_append_left _ hd)).2.2
      rw [e1, e2] at this
      exact this
    · obtain ⟨h1, ⟨u, h2, h3⟩, h4⟩ := k.ce c (List.mem_append_right _ hc)
      have ne : c.a ∉ Θl.map Cel.a := fun q => by
        have := k.nd
        rw [List.map_append, List.nodup_append] at this
        exact this.2.2 _ q _ (List.mem_map.mpr ⟨c, hc, rfl⟩) rfl
      refine ⟨?_, ⟨u, e.hh _ _ ne h2, c.mono e.ff h3⟩, h4⟩
      cases q : F' c.a with
      | none => rfl
      | some o =>
        rcases e.nw _ _ q with ⟨o', h'⟩ | h' | ⟨vs, ht⟩
        · rw [h1] at h'
          cases h'
        · rw [h2] at h'
          cases h'
        · have e1 := e.fh _ _ q
          rw [e.hh _ _ ne h2] at e1
          exact (c.nt h3 ((Option.some.inj e1).trans ht)).elim
theorem sps_C {pre : PreC} {E : L2.St → XK} {ps : List Vp} {out : Vp → List Cel → Prop} {err : Er → List Cel → Prop} (hp : pre ps Θl out err) (pm : Θ.Perm (Θl ++ Θr)) (k : ∀ p Θ', out p Θ' → K p (Θ' ++ Θr)) (x : ∀ e Θ', err e Θ' → Kr fr Γ (Θ' ++ Θr) (fun cls d σ H => E σ cls d H) e) : Sps fr Γ Θ (spC pre) E ps K := fun σ F H vs ok env hps Q q => by
  have ok := ok.perm pm
  exact ⟨F, ps, Θl, out, err, ok.fh, ok.cellsAt, hps, hp, fun p Θ' ho v F' H' ef h => q p _ (k p Θ' ho) v F' H' ef.ff (ok.eff ef) h,
    fun e Θ' he F' H' d us ef hd hf => x e Θ' he σ F' H' (ok.eff ef) (env.mono ef.ff) d us hd hf⟩
theorem okf_lent (fh : Same F H) (hc : CellsAt F H Θ) (ho : ∀ c ∈ Θ, c.own = true) : OkF ⟨F, minusL H (Θ.map Cel.a), []⟩ Θ F H := by
  refine ⟨fh, Same.refl F, fun a o h => .inl ⟨o, h⟩, fun a o _ h => ?_, fun a o h => ?_, hc.1, fun c hm => ?_⟩
  · have h : minusL H (Θ.map Cel.a) a = some o := h
    unfold minusL at h
    split at h
    · cases h
    · exact h
  · have h : minusL H (Θ.map Cel.a) a = some o := h
    unfold minusL at h
    split at h
    · cases h
    · exact ⟨o, h⟩
  · obtain ⟨h1, h2⟩ := hc.2 c hm
    refine ⟨h1, h2, ?_⟩
    rw [if_pos (ho c hm)]
    show minusL H (Θ.map Cel.a) c.a = none
    unfold minusL
    rw [if_pos (List.mem_map.mpr ⟨c, hm, rfl⟩)]
/-- Θ'' holds the cells Θ' (and others, which are let go) -/
theorem eff_of {Θ'' Θx : List Cel} (hc : CellsAt F H Θ) (ok : OkF ⟨F, minusL H (Θ.map Cel.a), []⟩ Θ'' F' H') (pm : Θ''.Perm (Θ' ++ Θx)) (tg : Θ'.map tagC = Θ.map tagC) : Eff F H Θ F' H' Θ' := by
  refine ⟨fun a o hn h => ok.h0 a o (by simp) ?_, ok.f0, ok.fh, fun a o h => ?_, (ok.perm pm).cellsAt, tg⟩
  · show minusL H (Θ.map Cel.a) a = some o
    unfold minusL
    rw [if_neg hn]
    exact h
  · rcases ok.nw a o h with h' | h' | h'
    · exact .inl h'
    · have h' : minusL H (Θ.map Cel.a) a = none := h'
      unfold minusL at h'
      split at h'
      · rename_i q
        rw [← tag_a tg] at q
        obtain ⟨c, hc', e⟩ := List.mem_map.mp q
        obtain ⟨h1, _⟩ := (ok.perm pm).cellsAt.2 c hc'
        rw [e, h] at h1
        cases h1
      · exact .inr (.inl h')
    · exact .inr (.inr h')
/-- what a def with lent cells returns: the cells Θ' are there then -/
def RetC (fr : Fr) (Q : VK) (tg : List (Addr × Bool)) (out : Vp → List Cel → Prop) : Prop := ∀ p Θ', out p Θ' → Θ'.map tagC = tg → ∀ Θ'' Θx, Θ''.Perm (Θ' ++ Θx) → Rt fr Θ'' Q p
def RseC (fr : Fr) (E : XK) (tg : List (Addr × Bool)) (err : Er → List Cel → Prop) : Prop := ∀ e Θ', err e Θ' → Θ'.map tagC = tg → ∀ Θ'' Θx, Θ''.Perm (Θ' ++ Θx) → ∀ F H d us, OkF fr Θ'' F H → F d = some (.xd us) → FsOk F e.fs us → E (.ref e.C) (some d) H
theorem RetC.fine {fr' : Fr} {tg : List (Addr × Bool)} {out : Vp → List Cel → Prop} (h : RetC fr Q tg out) (l : FrLe fr fr') : RetC fr' Q tg out := fun p Θ' ho ht Θ'' Θx pm => (h p Θ' ho ht Θ'' Θx pm).fine l
theorem RseC.fine {fr' : Fr} {E : XK} {tg : List (Addr × Bool)} {err : Er → List Cel → Prop} (h : RseC fr E tg err) (l : FrLe fr fr') : RseC fr' E tg err := fun e Θ' he ht Θ'' Θx pm F H d us ok => h e Θ' he ht Θ'' Θx pm F H d us (ok.le l)
theorem kr_C {E : XK} {tg : List (Addr × Bool)} {err : Er → List Cel → Prop} {e : Er} {Θx : List Cel} (h : RseC fr E tg err) (he : err e Θ') (ht : Θ'.map tagC = tg) (pm : Θ.Perm (Θ' ++ Θx)) : Kr fr Γ Θ (fun cls d _ H => E cls d H) e := fun σ F H ok env d us hd hf => h e Θ' he ht Θ Θx pm F H d us ok hd hf
end
section
variable {P : Program} {w : World} {K : PySem.W.Frag} {mg : Str → Option Value} {base : Heap} {x m qual : Str} {C : Addr} {st : Stmt} {N ps : List Str} {k : Nat} {pre : PreC}
theorem Src.okC (F : Src K mg x st ps) (S : FnScope N ps (defScope st)) (len : ∀ qs Θ out err, pre qs Θ out err → qs.length = ps.length ∧ ∀ c ∈ Θ, c.own = true)
    (hbody : ∀ (f : Addr) (cdv : Value) (A : Around) (outer : List Env) (s : Shared) (H : Hp) (E : XK) (qs : List Vp) (Θ : List Cel) (out : Vp → List Cel → Prop) (err : Er → List Cel → Prop), Room k (A.deeper (envOfC x (defScope st) s.heap.objs.size f cdv)) → pre qs Θ out err →
      ∃ t, PSs (cxOf CX0 P w K mg base N x (defScope st) f cdv A outer s H E).nox (defBody st) t ∧ ∀ fr Q, RetC fr Q (Θ.map tagC) out → Kn fr (envOf N qs) Θ (t { nx := fun _ H' => Q .non H', rt := Q })) : Def P w K mg base CX0 (k + 1) x ps (spC pre) := by
  refine F.ok S (fun vs H Q E h => ?_) (fun f cdv A outer s H vs Q E hr h => ?_)
  · obtain ⟨F, qs, Θ, out, err, _, _, h2, h3, _⟩ := h
    rw [← Paired.len h2]
    exact (len _ _ _ _ h3).1
  · obtain ⟨F, qs, Θ, out, err, h1, hc, h2, h3, h4, h5⟩ := h
    obtain ⟨t, ht, hk⟩ := hbody f cdv A outer s H E qs Θ out err hr h3
    exact ⟨t, ht, hk ⟨F, minusL H (Θ.map Cel.a), []⟩ Q (fun p Θ' ho tg Θ'' Θx pm v F' H' ok hv => h4 p Θ' ho v F' H' (eff_of hc ok pm tg) hv) _ F H (okf_lent h1 hc (len _ _ _ _ h3).2) (env_start h2)⟩
theorem Src.okCX (F : Src K mg x st ps) (S : FnScope N ps (defScope st)) (len : ∀ qs Θ out err, pre qs Θ out err → qs.length = ps.length ∧ ∀ c ∈ Θ, c.own = true)
    (hbody : ∀ (f : Addr) (cdv : Value) (A : Around) (outer : List Env) (s : Shared) (H : Hp) (E : XK) (qs : List Vp) (Θ : List Cel) (out : Vp → List Cel → Prop) (err : Er → List Cel → Prop), Room k (A.deeper (envOfC x (defScope st) s.heap.objs.size f cdv)) → pre qs Θ out err →
      ∃ t, PSs (cxOf (L2.CX P w) P w K mg base N x (defScope st) f cdv A outer s H E) (defBody st) t ∧ ∀ fr Q, RetC fr Q (Θ.map tagC) out → RseC fr E (Θ.map tagC) err → Kn fr (envOf N qs) Θ (t { nx := fun _ H' => Q .non H', rt := Q })) : Def P w K mg base (L2.CX P w) (k + 1) x ps (spC pre) := by
  refine F.okX S (fun vs H Q E h => ?_) (fun f cdv A outer s H vs Q E hr h => ?_)
  · obtain ⟨F, qs, Θ, out, err, _, _, h2, h3, _⟩ := h
    rw [← Paired.len h2]
    exact (len _ _ _ _ h3).1
  · obtain ⟨F, qs, Θ, out, err, h1, hc, h2, h3, h4, h5⟩ := h
    obtain ⟨t, ht, hk⟩ := hbody f cdv A outer s H E qs Θ out err hr h3
    exact ⟨t, ht, hk ⟨F, minusL H (Θ.map Cel.a), []⟩ Q (fun p Θ' ho tg Θ'' Θx pm v F' H' ok hv => h4 p Θ' ho v F' H' (eff_of hc ok pm tg) hv) (fun e Θ' he tg Θ'' Θx pm F' H' d us ok hd hf => h5 e Θ' he F' H' d us (eff_of hc ok pm tg) hd hf) _ F H (okf_lent h1 hc (len _ _ _ _ h3).2) (env_start h2)⟩
theorem SrcM.okCX (F : SrcM K C m qual st ps) (S : FnScope N ps (defScope st)) (len : ∀ qs Θ out err, pre qs Θ out err → qs.length = ps.length ∧ ∀ c ∈ Θ, c.own = true)
    (hbody : ∀ (f : Addr) (cdv : Value) (A : Around) (outer : List Env) (s : Shared) (H : Hp) (E : XK) (qs : List Vp) (Θ : List Cel) (out : Vp → List Cel → Prop) (err : Er → List Cel → Prop), Room k (A.deeper (envOfC qual (defScope st) s.heap.objs.size f cdv)) → pre qs Θ out err →
      ∃ t, PSs (cxOf (L2.CX P w) P w K mg base N qual (defScope st) f cdv A outer s H E) (defBody st) t ∧ ∀ fr Q, RetC fr Q (Θ.map tagC) out → RseC fr E (Θ.map tagC) err → Kn fr (envOf N qs) Θ (t { nx := fun _ H' => Q .non H', rt := Q })) : DefM P w K mg base (L2.CX P w) (k + 1) C m ps (spC pre) := by
  refine F.okX S (fun vs H Q E h => ?_) (fun f cdv A outer s H vs Q E hr h => ?_)
  · obtain ⟨F, qs, Θ, out, err, _, _, h2, h3, _⟩ := h
    rw [← Paired.len h2]
    exact (len _ _ _ _ h3).1
  · obtain ⟨F, qs, Θ, out, err, h1, hc, h2, h3, h4, h5⟩ := h
    obtain ⟨t, ht, hk⟩ := hbody f cdv A outer s H E qs Θ out err hr h3
    exact ⟨t, ht, hk ⟨F, minusL H (Θ.map Cel.a), []⟩ Q (fun p Θ' ho tg Θ'' Θx pm v F' H' ok hv => h4 p Θ' ho v F' H' (eff_of hc ok pm tg) hv) (fun e Θ' he tg Θ'' Θx pm F' H' d us ok hd hf => h5 e Θ' he F' H' d us (eff_of hc ok pm tg) hd hf) _ F H (okf_lent h1 hc (len _ _ _ _ h3).2) (env_start h2)⟩
theorem SrcM.okC (F : SrcM K C m qual st ps) (S : FnScope N ps (defScope st)) (len : ∀ qs Θ out err, pre qs Θ out err → qs.length = ps.length ∧ ∀ c ∈ Θ, c.own = true)
    (hbody : ∀ (f : Addr) (cdv : Value) (A : Around) (outer : List Env) (s : Shared) (H : Hp) (E : XK) (qs : List Vp) (Θ : List Cel) (out : Vp → List Cel → Prop) (err : Er → List Cel → Prop), Room k (A.deeper (envOfC qual (defScope st) s.heap.objs.size f cdv)) → pre qs Θ out err →
      ∃ t, PSs (cxOf CX0 P w K mg base N qual (defScope st) f cdv A outer s H E).nox (defBody st) t ∧ ∀ fr Q, RetC fr Q (Θ.map tagC) out → Kn fr (envOf N qs) Θ (t { nx := fun _ H' => Q .non H', rt := Q })) : DefM P w K mg base CX0 (k + 1) C m ps (spC pre) := by
  refine F.ok S (fun vs H Q E h => ?_) (fun f cdv A outer s H vs Q E hr h => ?_)
  · obtain ⟨F, qs, Θ, out, err, _, _, h2, h3, _⟩ := h
    rw [← Paired.len h2]
    exact (len _ _ _ _ h3).1
  · obtain ⟨F, qs, Θ, out, err, h1, hc, h2, h3, h4, h5⟩ := h
    obtain ⟨t, ht, hk⟩ := hbody f cdv A outer s H E qs Θ out err hr h3
    exact ⟨t, ht, hk ⟨F, minusL H (Θ.map Cel.a), []⟩ Q (fun p Θ' ho tg Θ'' Θx pm v F' H' ok hv => h4 p Θ' ho v F' H' (eff_of hc ok pm tg) hv) _ F H (okf_lent h1 hc (len _ _ _ _ h3).2) (env_start h2)⟩
end
end L2

set_option Elab.async false
set_option linter.all false
set_option maxRecDepth 100000
set_option maxHeartbeats 4000000
/-! The ground: isinstance, shapes for the walker, entering from the old layer. -/
namespace L2
open PySem PySem.Spec PyProof.Rows PySem.HErr
def zTy (n : String) : Vp := ⟨fun _ v => v = .ty n, fun _ h => h⟩
section
variable {fr : Fr} {Γ Γ' : Gam} {Θ Θ' : List Cel} {F F' H H' : Hp} {K : Vp → List Cel → Prop} {Q : VK} {Kf : PySem.W.Frag}
theorem we_cT {n : String} (k : K (zTy n) Θ) : We fr Γ Θ (tC (.ty n)) K := we_c (fun _ => rfl) k
theorem we_cR {a : Addr} (k : K (zAt a) Θ) : We fr Γ Θ (tC (.ref a)) K := we_c (fun _ => rfl) k
def TyP (fr : Fr) (Θ : List Cel) (Kf : PySem.W.Frag) (p : Vp) (t : Value) : Prop := ∀ F H v, OkF fr Θ F H → p.p F v → TyX Kf H v t
theorem ty_L {α : Type} {r : Rep α} {xs : List α} : TyP fr Θ Kf (iz (zL r) xs) (.type "list") := fun F H v ok ⟨a, vs, h1, h2, h3⟩ => by subst h1; exact .base (.lst (ok.fh _ _ h2))
theorem ty_T {α : Type} {r : Rep α} {xs : List α} : TyP fr Θ Kf (iz (zT r) xs) (.type "tuple") := fun F H v ok ⟨a, vs, h1, h2, h3⟩ => by subst h1; exact .base (.tup (ok.fh _ _ h2))
theorem ty_2 {α β : Type} {r : Rep α} {s : Rep β} {x : α × β} : TyP fr Θ Kf (iz (z2 r s) x) (.type "tuple") := fun F H v ok ⟨a, u, w, h1, h2, h3⟩ => by subst h1; exact .base (.tup (ok.fh _ _ h2))
theorem ty_I {n : Int} : TyP fr Θ Kf (iz zI n) (.type "int") := fun F H v ok h => by cases (show v = V.int n from h); exact .base (.int _)
theorem ty_B {n : Bool} : TyP fr Θ Kf (iz zB n) (.type "bool") := fun F H v ok h => by cases (show v = V.bl n from h); exact .base (.bl _)
theorem ty_S {n : Str} : TyP fr Θ Kf (iz zS n) (.type "str") := fun F H v ok h => by cases h.1; exact .base (.str _)
theorem ty_N : TyP fr Θ Kf zNon (.type "NoneType") := fun F H v ok h => by cases (show v = V.non from h); exact .base .non
theorem ty_C {α : Type} {r : Rep α} {xs : List α} {a : Addr} (hc : cL a r xs ∈ Θ) : TyP fr Θ Kf (zAt a) (.type "list") := fun F H v ok hv => by
  have hv : v = .ref a := hv
  subst hv
  obtain ⟨_, ⟨o, h2, vs, rfl, h4⟩, _⟩ := ok.ce _ hc
  exact .base (.lst h2)
theorem cb_isi {p : Vp} {a n : String} {b : Bool} (h : TyP fr Θ Kf p (.type a)) (e : kitB a n = some b) (k : K (iz zB b) Θ) : Cbs fr Θ (rIsi Kf) [p, zTy n] K := fun F H vs ok hps Q q => by
  cases hps with
  | cons h1 hp => cases hp with
    | cons h2 hp => cases hp with
      | nil =>
        have h2 : _ = V.ty n := h2
        subst h2
        exact ⟨_, _, _, _, b, rfl, .ty _, h F H _ ok h1, kit_ty e, q.go k ok rfl⟩
theorem kit_ll : kitB "list" "list" = some true := by decide +kernel
theorem kit_tt : kitB "tuple" "tuple" = some true := by decide +kernel
theorem kit_ii : kitB "int" "int" = some true := by decide +kernel
theorem kit_ib : kitB "int" "bool" = some false := by decide +kernel
theorem kit_bb : kitB "bool" "bool" = some true := by decide +kernel
theorem kit_bi : kitB "bool" "int" = some true := by decide +kernel
theorem kit_ss : kitB "str" "str" = some true := by decide +kernel
theorem kit_lt : kitB "list" "tuple" = some false := by decide +kernel
theorem kit_tl : kitB "tuple" "list" = some false := by decide +kernel
/-! shapes -/
theorem im_t {b : Bool} {t : TT} {c : Bool} (h : b = true → Et fr Γ Θ t c) : b = true → Et fr Γ Θ t c := h
theorem im_f {b : Bool} {t : TT} {c : Bool} (h : b = false → Et fr Γ Θ t c) : b = false → Et fr Γ Θ t c := h
theorem im_tv {b : Bool} {t : TE} {p : Vp} (h : b = true → Ev fr Γ Θ t p) : b = true → Ev fr Γ Θ t p := h
theorem im_fv {b : Bool} {t : TE} {p : Vp} (h : b = false → Ev fr Γ Θ t p) : b = false → Ev fr Γ Θ t p := h
/-! from the old layer -/
theorem okf_box {b l : Addr} (h : Box H b l) : OkF ⟨minus H b, H, [b]⟩ [cBox false b l] (minus H b) H := by
  obtain ⟨ns, i, c, r, h1, h2, h3, h4⟩ := h.ex
  refine ⟨fun a o h => ?_, Same.refl _, fun a o h => .inl ⟨o, h⟩, fun a o _ h => h, fun a o h => ⟨o, h⟩, by simp, fun c' hc => ?_⟩
  · by_cases e : a = b
    · rw [e, minus_self] at h; cases h
    · rw [minus_ne e] at h; exact h
  · rw [List.mem_singleton.mp hc]
    exact ⟨minus_self, ⟨_, h1, ns, i, c, r, rfl, by rw [minus_ne h4]; exact h2, h3⟩, List.mem_singleton.mpr rfl⟩
theorem enter {b l : Addr} {σ : L2.St} {P : L2.St → Hp → Prop} (h : Box H b l) (e : EnvF Γ σ (minus H b)) (k : Kn ⟨minus H b, H, [b]⟩ Γ [cBox false b l] P) : P σ H := k σ _ H (okf_box h) e
theorem rows_rep {b l p ap as' : Addr} {prs : List (Str × Int)} {srs : List SRow} (hb : Box H b l) (hp : H p = some (.tup [.ref ap, .ref as'])) (hP : PRows H ap prs) (hS : SRows H as' srs) (pa : ∀ r ∈ prs, Asc r.1) (sa : ∀ r ∈ srs, Asc r.1 ∧ (∀ y ∈ r.2.1, Asc y) ∧ ∀ y ∈ r.2.2, Asc y) :
    (z2 (zL (z2 zS zI)) (zL (z3 zS (zL zS) (zL zS)))).p (minus H b) (.ref p) (prs, srs) := by
  obtain ⟨ts, h1, h2⟩ := hP
  obtain ⟨us, h3, h4⟩ := hS
  have nt : ∀ {t : Addr} {xs : List V}, H t = some (.tup xs) → minus H b t = some (.tup xs) := fun h => by rw [minus_ne (tup_ne hb h)]; exact h
  have nl : ∀ {t : Addr} {ws : List Str}, H t = some (.lst (ws.map V.str)) → minus H b t = some (.lst (ws.map V.str)) := fun h => by rw [minus_ne (lst_strs_ne hb h)]; exact h
  have nr : ∀ {t : Addr} {ws : List Addr}, H t = some (.lst (ws.map V.ref)) → minus H b t = some (.lst (ws.map V.ref)) := fun h => by rw [minus_ne (lst_refs_ne hb h)]; exact h
  refine ⟨p, _, _, rfl, nt hp, ⟨ap, _, rfl, nr h1, ?_⟩, ⟨as', _, rfl, nr h3, ?_⟩⟩
  · clear h1
    induction h2 with
    | nil => exact .nil
    | cons a _ ih => exact .cons ⟨_, _, _, rfl, nt a, ⟨rfl, pa _ (List.mem_cons_self ..)⟩, rfl⟩ (ih fun r hr => pa r (List.mem_cons_of_mem _ hr))
  · clear h3
    induction h4 with
    | nil => exact .nil
    | cons a _ ih =>
      obtain ⟨x, y, a1, a2, a3, _⟩ := a
      obtain ⟨s1, s2, s3⟩ := sa _ (List.mem_cons_self ..)
      exact .cons ⟨_, _, _, _, rfl, nt a1, ⟨rfl, s1⟩, ⟨x, _, rfl, nl a2, strs_pvs s2⟩, ⟨y, _, rfl, nl a3, strs_pvs s3⟩⟩ (ih fun r hr => sa r (List.mem_cons_of_mem _ hr))
end
end L2

set_option Elab.async false
set_option linter.all false
set_option maxRecDepth 100000
set_option maxHeartbeats 4000000
/-! The ground: defs that hand out cells of their own; cells that are lent to be read. -/
namespace L2
open PySem PySem.Spec PyProof.Rows PySem.HErr
abbrev PreN := List Vp → (Vp → List Cel → Prop) → (Er → Prop) → Prop
def spN (pre : PreN) : Sp := fun vs H Q E => ∃ F ps out err, Same F H ∧ Paired (fun (p : Vp) v => p.p F v) ps vs ∧ pre ps out err ∧
  (∀ p Θn, out p Θn → ∀ v F' H', Same H H' → Same F F' → Same F' H' → Newer F H F' → CellsAt F' H' Θn → (∀ c ∈ Θn, H c.a = none ∧ c.own = true) → p.p F' v → Q v H') ∧ PErs F H E err
section
variable {fr : Fr} {Γ Γ' : Gam} {Θ Θ' Θn : List Cel} {F F' H H' : Hp} {K : Vp → List Cel → Prop} {Q : VK}
theorem OkF.more (k : OkF fr Θ F H) (hh : Same H H') (ff : Same F F') (fh : Same F' H') (nw : Newer F H F') (ca : CellsAt F' H' Θn) (hn : ∀ c ∈ Θn, H c.a = none ∧ c.own = true) : OkF fr (Θn ++ Θ) F' H' := by
  have g := k.grow hh ff fh nw
  refine ⟨g.fh, g.f0, g.nw, g.h0, g.al, ?_, fun c hc => ?_⟩
  · rw [List.map_append, List.nodup_append]
    refine ⟨ca.1, g.nd, fun a ha b hb e => ?_⟩
    obtain ⟨c, hc, rfl⟩ := List.mem_map.mp ha
    obtain ⟨d, hd, rfl⟩ := List.mem_map.mp hb
    obtain ⟨_, ⟨o, h2, _⟩, _⟩ := k.ce d hd
    have h1 : H c.a = none := (hn c hc).1
    rw [e, h2] at h1
    cases h1
  · rcases List.mem_append.mp hc with hc | hc
    · obtain ⟨h1, h2⟩ := ca.2 c hc
      obtain ⟨h3, h4⟩ := hn c hc
      exact ⟨h1, h2, by rw [if_pos h4]; exact k.h0n h3⟩
    · exact g.ce c hc
theorem sps_N {pre : PreN} {E : L2.St → XK} {ps : List Vp} {out : Vp → List Cel → Prop} {err : Er → Prop} (hp : pre ps out err) (k : ∀ p Θn, out p Θn → K p (Θn ++ Θ)) (x : ∀ e, err e → Kr fr Γ Θ (fun cls d σ H => E σ cls d H) e) : Sps fr Γ Θ (spN pre) E ps K := fun σ F H vs ok env hps Q q =>
  ⟨F, ps, out, err, ok.fh, hps, hp, fun p Θn ho v F' H' hh ff fh nw ca hn h => q p _ (k p Θn ho) v F' H' ff (ok.more hh ff fh nw ca hn) h,
    fun e he F' H' d us hh ff fh nw hd hf => x e he σ F' H' (ok.grow hh ff fh nw) (env.mono ff) d us hd hf⟩
def RetN (fr : Fr) (Q : VK) (out : Vp → List Cel → Prop) : Prop := ∀ p Θn, out p Θn → (∀ c ∈ Θn, c.own = true) → ∀ Θ'' Θx, Θ''.Perm (Θn ++ Θx) → Rt fr Θ'' Q p
theorem RetN.fine {fr' : Fr} {out : Vp → List Cel → Prop} (h : RetN fr Q out) (l : FrLe fr fr') : RetN fr' Q out := fun p Θn ho hn Θ'' Θx pm => (h p Θn ho hn Θ'' Θx pm).fine l
end
section
variable {P : Program} {w : World} {K : PySem.W.Frag} {mg : Str → Option Value} {base : Heap} {x m qual : Str} {C : Addr} {st : Stmt} {N ps : List Str} {k : Nat} {pre : PreN}
theorem retN_of {F H : Hp} {Q : VK} {out : Vp → List Cel → Prop} (h4 : ∀ p Θn, out p Θn → ∀ v F' H', Same H H' → Same F F' → Same F' H' → Newer F H F' → CellsAt F' H' Θn → (∀ c ∈ Θn, H c.a = none ∧ c.own = true) → p.p F' v → Q v H') : RetN ⟨F, H, []⟩ Q out := fun p Θn ho hn Θ'' Θx pm v F' H' ok hv => by
  have ok2 := ok.perm pm
  obtain ⟨a, b, c, d⟩ := ok.post
  refine h4 p Θn ho v F' H' a b c d ok2.cellsAt (fun e he => ⟨?_, hn e he⟩) hv
  have := (ok2.ce e (List.mem_append_left _ he)).2.2
  rw [if_pos (hn e he)] at this
  exact this
theorem Src.okN (F : Src K mg x st ps) (S : FnScope N ps (defScope st)) (len : ∀ qs out err, pre qs out err → qs.length = ps.length)
    (hbody : ∀ (f : Addr) (cdv : Value) (A : Around) (outer : List Env) (s : Shared) (H : Hp) (E : XK) (qs : List Vp) (out : Vp → List Cel → Prop) (err : Er → Prop), Room k (A.deeper (envOfC x (defScope st) s.heap.objs.size f cdv)) → pre qs out err →
      ∃ t, PSs (cxOf CX0 P w K mg base N x (defScope st) f cdv A outer s H E).nox (defBody st) t ∧ ∀ fr Q, RetN fr Q out → Kn fr (envOf N qs) [] (t { nx := fun _ H' => Q .non H', rt := Q })) : Def P w K mg base CX0 (k + 1) x ps (spN pre) := by
  refine F.ok S (fun vs H Q E h => ?_) (fun f cdv A outer s H vs Q E hr h => ?_)
  · obtain ⟨F, qs, out, err, _, h2, h3, _⟩ := h
    rw [← Paired.len h2]
    exact len _ _ _ h3
  · obtain ⟨F, qs, out, err, h1, h2, h3, h4, h5⟩ := h
    obtain ⟨t, ht, hk⟩ := hbody f cdv A outer s H E qs out err hr h3
    exact ⟨t, ht, hk _ Q (retN_of h4) _ F H (OkF.start h1) (env_start h2)⟩
theorem Src.okNX (F : Src K mg x st ps) (S : FnScope N ps (defScope st)) (len : ∀ qs out err, pre qs out err → qs.length = ps.length)
    (hbody : ∀ (f : Addr) (cdv : Value) (A : Around) (outer : List Env) (s : Shared) (H : Hp) (E : XK) (qs : List Vp) (out : Vp → List Cel → Prop) (err : Er → Prop), Room k (A.deeper (envOfC x (defScope st) s.heap.objs.size f cdv)) → pre qs out err →
      ∃ t, PSs (cxOf (L2.CX P w) P w K mg base N x (defScope st) f cdv A outer s H E) (defBody st) t ∧ ∀ fr Q, RetN fr Q out → Rse fr E err → Kn fr (envOf N qs) [] (t { nx := fun _ H' => Q .non H', rt := Q })) : Def P w K mg base (L2.CX P w) (k + 1) x ps (spN pre) := by
  refine F.okX S (fun vs H Q E h => ?_) (fun f cdv A outer s H vs Q E hr h => ?_)
  · obtain ⟨F, qs, out, err, _, h2, h3, _⟩ := h
    rw [← Paired.len h2]
    exact len _ _ _ h3
  · obtain ⟨F, qs, out, err, h1, h2, h3, h4, h5⟩ := h
    obtain ⟨t, ht, hk⟩ := hbody f cdv A outer s H E qs out err hr h3
    exact ⟨t, ht, hk _ Q (retN_of h4) h5.rse _ F H (OkF.start h1) (env_start h2)⟩
end
theorem nest_frz {α : Type} {r : Rep α} {fr : Fr} {Θ : List Cel} {F H : Hp} {a : Addr} {as : List Addr} {ls : List (List α)} (ok : OkF fr (cL a zRef as :: (cells r as ls ++ Θ)) F H) (hl : as.length = ls.length) : ∃ F', Same F F' ∧ OkF fr Θ F' H ∧ (iz (zL (zL r)) ls).p F' (.ref a) := by
  obtain ⟨F1, s1, ok1, p1⟩ := okf_frzN (Θ := cL a zRef as :: Θ) hl (ok.perm (List.perm_middle.symm))
  obtain ⟨h0, ⟨o, h3, vs, rfl, h5⟩, _⟩ := ok1.ce _ (List.mem_cons_self ..)
  have h0 : F1 a = none := h0
  have h3 : H a = some (.lst vs) := h3
  have ok2 := ok1.frz (i := 0) (c := cL a zRef as) rfl rfl h3
  have s2 : Same F1 (upd F1 a (.lst vs)) := same_upd h0
  refine ⟨_, s1.trans s2, ok2, a, vs, rfl, upd_same, ?_⟩
  have : ∀ {F2 : Hp}, Same F1 F2 → ∀ {vs : List V} {as : List Addr} {ls : List (List α)}, PVs zRef F1 vs as → Paired (fun a l => (zL r).p F1 (.ref a) l) as ls → PVs (zL r) F2 vs ls := by
    intro F2 s2 vs as ls h
    induction h generalizing ls with
    | nil => intro q; cases q; exact .nil
    | cons a _ ih => intro q; cases q with
      | cons b c =>
        have a : _ = V.ref _ := a
        subst a
        exact .cons ((zL r).mono s2 b) (ih c)
  exact this s2 h5 p1
/-- a list of lists of one's own is handed out, and frozen at once -/
theorem sps_Nf {fr : Fr} {Γ : Gam} {Θ : List Cel} {K : Vp → List Cel → Prop} {pre : PreN} {E : L2.St → XK} {ps : List Vp} {out : Vp → List Cel → Prop} {err : Er → Prop} (hp : pre ps out err) (k : ∀ p Θn, out p Θn → ∃ (α : Type) (r : Rep α) (a : Addr) (as : List Addr) (ls : List (List α)), as.length = ls.length ∧ p = zAt a ∧ Θn = cL a zRef as :: cells r as ls ∧ K (iz (zL (zL r)) ls) Θ) (x : ∀ e, err e → Kr fr Γ Θ (fun cls d σ H => E σ cls d H) e) : Sps fr Γ Θ (spN pre) E ps K := fun σ F H vs ok env hps Q q =>
  ⟨F, ps, out, err, ok.fh, hps, hp, fun p Θn ho v F' H' hh ff fh nw ca hn h => by
    obtain ⟨α, r, a, as, ls, hl, e1, e2, kk⟩ := k p Θn ho
    subst e1 e2
    have h : v = .ref a := h
    subst h
    obtain ⟨F2, s2, ok2, h2⟩ := nest_frz (ok.more hh ff fh nw ca hn) hl
    exact q _ Θ kk _ F2 H' (ff.trans s2) ok2 h2,
    fun e he F' H' d us hh ff fh nw hd hf => x e he σ F' H' (ok.grow hh ff fh nw) (env.mono ff) d us hd hf⟩
/-- a list of one's own is handed out, and frozen at once -/
theorem sps_N1 {fr : Fr} {Γ : Gam} {Θ : List Cel} {K : Vp → List Cel → Prop} {pre : PreN} {E : L2.St → XK} {ps : List Vp} {out : Vp → List Cel → Prop} {err : Er → Prop} (hp : pre ps out err) (k : ∀ p Θn, out p Θn → ∃ (α : Type) (r : Rep α) (a : Addr) (xs : List α), p = zAt a ∧ Θn = [cL a r xs] ∧ K (iz (zL r) xs) Θ) (x : ∀ e, err e → Kr fr Γ Θ (fun cls d σ H => E σ cls d H) e) : Sps fr Γ Θ (spN pre) E ps K := fun σ F H vs ok env hps Q q =>
  ⟨F, ps, out, err, ok.fh, hps, hp, fun p Θn ho v F' H' hh ff fh nw ca hn h => by
    obtain ⟨α, r, a, xs, e1, e2, kk⟩ := k p Θn ho
    subst e1 e2
    have h : v = .ref a := h
    subst h
    have ok1 := ok.more hh ff fh nw ca hn
    obtain ⟨h0, ⟨o, h3, us, rfl, h5⟩, _⟩ := ok1.ce _ (List.mem_cons_self ..)
    have h0 : F' a = none := h0
    have h3 : H' a = some (.lst us) := h3
    have ok2 := ok1.frz (i := 0) (c := cL a r xs) rfl rfl h3
    have s2 : Same F' (upd F' a (.lst us)) := same_upd h0
    exact q _ Θ kk _ _ H' (ff.trans s2) ok2 ⟨a, us, rfl, upd_same, Paired.imp2 (fun _ _ h => r.mono s2 h) h5⟩,
    fun e he F' H' d us hh ff fh nw hd hf => x e he σ F' H' (ok.grow hh ff fh nw) (env.mono ff) d us hd hf⟩
/-! ### a comprehension's list, kept as one's own -/
section
variable {fr : Fr} {Γ Γ' : Gam} {Θ Θ' Θn : List Cel} {F F' H H' : Hp} {K : Vp → List Cel → Prop} {Q : VK}
theorem we_lcRO {α β : Type} {r : Rep α} {s : Rep β} {xs : List α} {pr : α → Bool} {R : α → β → Prop} {wi : TI} {g : TG} {tt : TT} {te : TE} {vs : List Nat} {Γ2 : α → Gam}
    (it : Wi fr Γ Θ wi fun its Θ1 => its = xs.map (iz r) ∧ Θ1 = Θ) (hl : xs.length ≤ 1000) (tg : ∀ x, TgR g vs (iz r x) (wipeG Γ vs) (Γ2 x)) (ht : ∀ x ∈ xs, ∀ c, Et fr (Γ2 x) (c :: Θ) tt (pr x))
    (he : ∀ x ∈ xs, pr x = true → ∀ c, We fr (Γ2 x) (c :: Θ) te fun q Θ' => Θ' = c :: Θ ∧ ∃ y, R x y ∧ q = iz s y) (k : ∀ ys a, Paired R (xs.filter pr) ys → K (zAt a) (cL a s ys :: Θ)) : We fr Γ Θ (tLc wi g tt te vs) K := fun σ F H ok env Q q => by
  refine it σ F H ok env _ fun its Θ1 ⟨e1, e2⟩ J F1 H1 s1 ok1 jok => ?_
  subst e1 e2
  intro D nD
  refine ⟨fun i m H' => m = xs.length - i ∧ i ≤ xs.length ∧ ∃ F2 ys, Same F1 F2 ∧ OkF fr (cL D s ys :: Θ1) F2 H' ∧ Paired R ((xs.take i).filter pr) ys, ⟨xs.length, by simp, Nat.zero_le _, F1, [], Same.refl _, ok1.mkOwn (c := cL D s []) nD rfl ⟨[], rfl, .nil⟩, .nil⟩, ?_⟩
  rintro i m H' ⟨rfl, hi, F2, ys, s2, ok2, py⟩
  obtain ⟨j1, j2⟩ := jok F2 H' s2 ok2.fh
  by_cases hlt : i < xs.length
  · have hx : xs[i]? = some xs[i] := List.getElem?_eq_getElem hlt
    generalize xs[i] = x at hx
    have hm := List.mem_of_getElem? hx
    obtain ⟨jg, jy⟩ := j1 i (iz r x) (by rw [List.getElem?_map, hx]; rfl)
    refine .inr ⟨jg, fun H3 => ∃ F3 ys, Same F1 F3 ∧ OkF fr (cL D s ys :: Θ1) F3 H3 ∧ Paired R ((xs.take (i + 1)).filter pr) ys, fun H3 p => ⟨xs.length - (i + 1), by omega, rfl, hlt, p⟩, fun v H3 y => ?_⟩
    obtain ⟨F3, e1, e2, e3, e4, e5⟩ := jy v H3 y
    have ok3 := ok2.grow e2 e1 e3 e4
    have s3 := s2.trans e1
    refine tg x (L2.wipe σ vs) F3 H3 v ok3.fh ((env.mono (s1.trans s3)).wipe vs) e5 _ fun σ2 env2 hw => ⟨by rw [hw, wipe_idem], ?_⟩
    have et : (xs.take (i + 1)).filter pr = (xs.take i).filter pr ++ if pr x = true then [x] else [] := by
      rw [take_more hx, List.filter_append, List.filter_cons]
      rfl
    refine ht x hm _ σ2 F3 H3 ok3 env2 _ fun b Θ2 ⟨e6, e7⟩ F4 H4 s4 ok4 => ?_
    subst e6 e7
    by_cases hb : pr x = true
    · rw [if_pos hb]
      rw [if_pos hb] at et
      refine he x hm hb _ σ2 F4 H4 ok4 (env2.mono s4) _ fun p Θ3 ⟨e8, y, hR, e9⟩ u F5 H5 s5 ok5 hp => ?_
      subst e8 e9
      obtain ⟨_, ⟨o, h2, acc, rfl, h4⟩, _⟩ := ok5.ce _ (List.mem_cons_self ..)
      have ok6 := ok5.mut (i := 0) (c := cL D s ys) (c' := cL D s (ys ++ [y])) (o := .lst (acc ++ [u])) rfl rfl rfl ⟨_, rfl, PySem.Paired.snoc h4 hp⟩
      refine ⟨acc, h2, ?_, F5, ys ++ [y], (s3.trans s4).trans s5, ok6, ?_⟩
      · rw [Paired.len h4, ← Paired.len py]
        have := List.length_filter_le pr (xs.take i)
        rw [List.length_take] at this
        exact small1000 (by omega)
      · rw [et]
        exact PySem.Paired.snoc py hR
    · rw [if_neg hb]
      rw [if_neg hb, List.append_nil] at et
      exact ⟨F4, ys, s3.trans s4, ok4, by rw [et]; exact py⟩
  · have e : i = xs.length := by omega
    subst e
    rw [List.take_length] at py
    exact .inl ⟨by rw [List.length_map] at j2; exact j2, q _ _ (k ys D py) _ F2 H' (s1.trans s2) ok2 rfl⟩
theorem we_lcO {α β : Type} {r : Rep α} {s : Rep β} {xs : List α} {pr : α → Bool} {f : α → β} {wi : TI} {g : TG} {tt : TT} {te : TE} {vs : List Nat} {Γ2 : α → Gam}
    (it : Wi fr Γ Θ wi fun its Θ1 => its = xs.map (iz r) ∧ Θ1 = Θ) (hl : xs.length ≤ 1000) (tg : ∀ x, TgR g vs (iz r x) (wipeG Γ vs) (Γ2 x)) (ht : ∀ x ∈ xs, ∀ c, Et fr (Γ2 x) (c :: Θ) tt (pr x))
    (he : ∀ x ∈ xs, pr x = true → ∀ c, Ev fr (Γ2 x) (c :: Θ) te (iz s (f x))) (k : ∀ a, K (zAt a) (cL a s ((xs.filter pr).map f) :: Θ)) : We fr Γ Θ (tLc wi g tt te vs) K :=
  we_lcRO (R := fun x y => y = f x) it hl tg ht (fun x hx hp c => (he x hx hp c).imp fun p Θ' ⟨e1, e2⟩ => ⟨e2, f x, rfl, e1⟩) fun ys a h => by
    rw [paired_map h]
    exact k a
theorem we_lcO0 {α β : Type} {r : Rep α} {s : Rep β} {xs : List α} {f : α → β} {wi : TI} {g : TG} {te : TE} {vs : List Nat} {Γ2 : α → Gam}
    (it : Wi fr Γ Θ wi fun its Θ1 => its = xs.map (iz r) ∧ Θ1 = Θ) (hl : xs.length ≤ 1000) (tg : ∀ x, TgR g vs (iz r x) (wipeG Γ vs) (Γ2 x))
    (he : ∀ x ∈ xs, ∀ c, Ev fr (Γ2 x) (c :: Θ) te (iz s (f x))) (k : ∀ a, K (zAt a) (cL a s (xs.map f) :: Θ)) : We fr Γ Θ (tLc wi g tYes te vs) K :=
  we_lcO (pr := fun _ => true) it hl tg (fun x hx c => wt_yes ⟨rfl, rfl⟩) (fun x hx _ c => he x hx c) fun a => by
    rw [List.filter_eq_self.mpr fun _ _ => rfl]
    exact k a
/-! ### cells lent to be read -/
/-- the value as it stood in F0 -/
def pin (F0 : Hp) (p : Vp) : Vp := ⟨fun _ v => p.p F0 v, fun _ h => h⟩
/-- the object at a, and what it is just now -/
def zBoth (a : Addr) (q : Vp) : Vp := ⟨fun F v => v = .ref a ∧ q.p F v, fun e ⟨h1, h2⟩ => ⟨h1, q.mono e h2⟩⟩
/-- Fc: F0 and the contents of the cells Θb -/
structure Lend (fr : Fr) (Θb : List Cel) (F0 Fc : Hp) : Prop where
  s : Same F0 Fc
  f0 : Same fr.F0 F0
  nw : ∀ a o, F0 a = some o → Nwr fr.F0 fr.H0 a o
  nc : ∀ a o, Fc a = some o → (∃ o', F0 a = some o') ∨ a ∈ Θb.map Cel.a
  nd : (Θb.map Cel.a).Nodup
  ce : ∀ c ∈ Θb, F0 c.a = none ∧ (∃ o, Fc c.a = some o ∧ c.φ F0 o) ∧ c.own = true ∧ fr.H0 c.a = none
def updL (F H : Hp) (as : List Addr) : Hp := fun a => if a ∈ as then H a else F a
theorem kn_lend {P : L2.St → Hp → Prop} {Θb : List Cel} (ho : ∀ c ∈ Θb, c.own = true) (k : ∀ F0 Fc, Lend fr Θb F0 Fc → Kn ⟨Fc, fr.H0, fr.B⟩ (Γ.map (Option.map (pin F0))) [] P) : Kn fr Γ Θb P := fun σ F H ok env => by
  have hs : Same F (updL F H (Θb.map Cel.a)) := fun a o h => by
    unfold updL
    split
    · rename_i q
      obtain ⟨c, hc, e⟩ := List.mem_map.mp q
      have := (ok.ce c hc).1
      rw [e, h] at this
      cases this
    · exact h
  have hl : Lend fr Θb F (updL F H (Θb.map Cel.a)) := by
    refine ⟨hs, ok.f0, ok.nw, fun a o h => ?_, ok.nd, fun c hc => ?_⟩
    · unfold updL at h
      split at h
      · rename_i q
        exact .inr q
      · exact .inl ⟨o, h⟩
    · obtain ⟨h1, ⟨o, h2, h3⟩, h4⟩ := ok.ce c hc
      rw [if_pos (ho c hc)] at h4
      refine ⟨h1, ⟨o, ?_, h3⟩, ho c hc, h4⟩
      unfold updL
      rw [if_pos (List.mem_map.mpr ⟨c, hc, rfl⟩)]
      exact h2
  refine k F _ hl σ _ H ⟨fun a o h => ?_, Same.refl _, fun a o h => .inl ⟨o, h⟩, ok.h0, ok.al, List.nodup_nil, fun c hc => by cases hc⟩ ?_
  · have h : (if a ∈ Θb.map Cel.a then H a else F a) = some o := h
    split at h
    · exact h
    · exact ok.fh a o h
  · have : ∀ {Γ : Gam} {σ : L2.St}, EnvF Γ σ F → EnvF (Γ.map (Option.map (pin F))) σ (updL F H (Θb.map Cel.a)) := by
      intro Γ σ h
      induction h with
      | nil => exact .nil
      | @cons e _ _ _ a _ ih =>
        refine .cons (fun p hp => ?_) ih
        cases e with
        | none => cases hp
        | some q =>
          cases hp
          exact a q rfl
    exact this env
theorem we_varP {Θb : List Cel} {F0 Fc : Hp} {B : List Addr} {H0 : Hp} {p : Vp} {i : Nat} (hl : Lend fr Θb F0 Fc) (h : Γ[i]? = some (some (pin F0 p))) (k : K p Θ) : We ⟨Fc, H0, B⟩ Γ Θ (tVar i) K := fun σ F H ok env Q q => by
  obtain ⟨v, h1, h2⟩ := env.get h
  exact ⟨v, h1, q.go k ok (p.mono (hl.s.trans ok.f0) h2)⟩
theorem we_varB {a : Addr} {p : Vp} {i : Nat} (h : Γ[i]? = some (some (zBoth a p))) (k : K p Θ) : We fr Γ Θ (tVar i) K := fun σ F H ok env Q q => by
  obtain ⟨v, h1, h2⟩ := env.get h
  exact ⟨v, h1, q.go k ok h2.2⟩
/-- a pinned name is what it was -/
theorem kn_unpin {Θb : List Cel} {F0 Fc : Hp} {B : List Addr} {H0 : Hp} {p q : Vp} {i : Nat} {P : L2.St → Hp → Prop} (hl : Lend fr Θb F0 Fc) (h : Γ[i]? = some (some (pin F0 p))) (hq : ∀ F v, Same Fc F → p.p F0 v → q.p F v) (k : Kn ⟨Fc, H0, B⟩ (Γ.set i (some q)) Θ P) : Kn ⟨Fc, H0, B⟩ Γ Θ P := fun σ F H ok env => by
  obtain ⟨v, h1, h2⟩ := env.get h
  have e : σ.set i (some v) = σ := by
    apply List.ext_getElem?
    intro m
    rw [List.getElem?_set]
    split
    · rename_i q
      subst q
      rw [if_pos (List.getElem?_eq_some_iff.mp h1).1, h1]
    · rfl
  have := env.set (i := i) (p := q) (hq F v ok.f0 h2)
  rw [e] at this
  exact k σ F H ok this
/-- what a name's entry becomes when the cells are taken back -/
def Back (F0 : Hp) (e e' : Option Vp) : Prop := e' = none ∨ (∃ p, e = some (pin F0 p) ∧ e' = some p) ∨ (∃ a q, e = some (zBoth a q) ∧ e' = some (zAt a)) ∨ ∃ p, e = some p ∧ e' = some p ∧ ∀ F F' v, p.p F v → p.p F' v
theorem kn_take {Θb : List Cel} {F0 Fc : Hp} {P : L2.St → Hp → Prop} {Γ1 Γ2 : Gam} (hl : Lend fr Θb F0 Fc) (hb : Paired (Back F0) Γ1 Γ2) (k : Kn fr Γ2 Θb P) : Kn ⟨Fc, fr.H0, fr.B⟩ Γ1 [] P := fun σ F H ok env => by
  have fs : Same F0 (fun a => if a ∈ Θb.map Cel.a then none else F a) := fun a o h => by
    dsimp only
    rw [if_neg]
    · exact ok.f0 _ _ (hl.s _ _ h)
    · intro q
      obtain ⟨c, hc, e⟩ := List.mem_map.mp q
      have := (hl.ce c hc).1
      rw [e, h] at this
      cases this
  refine k σ (fun a => if a ∈ Θb.map Cel.a then none else F a) H ⟨fun a o h => ?_, hl.f0.trans fs, fun a o h => ?_, ok.h0, ok.al, hl.nd, fun c hc => ?_⟩ ?_
  · have h : (if a ∈ Θb.map Cel.a then none else F a) = some o := h
    split at h
    · cases h
    · exact ok.fh a o h
  · have h : (if a ∈ Θb.map Cel.a then none else F a) = some o := h
    split at h
    · cases h
    · rename_i q
      rcases ok.nw a o h with ⟨o', h'⟩ | h' | h'
      · rcases hl.nc a o' h' with ⟨o2, h2⟩ | h2
        · have e1 := ok.f0 a o2 (hl.s _ _ h2)
          rw [h] at e1
          cases e1
          exact hl.nw a o h2
        · exact absurd h2 q
      · exact .inr (.inl h')
      · exact .inr (.inr h')
  · obtain ⟨h1, ⟨o, h2, h3⟩, h4, h5⟩ := hl.ce c hc
    refine ⟨if_pos (List.mem_map.mpr ⟨c, hc, rfl⟩), ⟨o, ok.fh _ _ (ok.f0 _ _ h2), c.mono fs h3⟩, by rw [if_pos h4]; exact h5⟩
  · have : ∀ {Γ1 Γ2 : Gam} {σ : L2.St}, Paired (Back F0) Γ1 Γ2 → EnvF Γ1 σ F → EnvF Γ2 σ (fun a => if a ∈ Θb.map Cel.a then none else F a) := by
      intro Γ1 Γ2 σ hb
      induction hb generalizing σ with
      | nil => intro h; cases h; exact .nil
      | cons a _ ih =>
        intro h
        cases h with
        | cons b c =>
          refine .cons (fun p hp => ?_) (ih c)
          rcases a with a | ⟨q, a1, a2⟩ | ⟨x, q, a1, a2⟩ | ⟨q, a1, a2, a3⟩
          · rw [a] at hp; cases hp
          · rw [a2] at hp
            cases hp
            obtain ⟨v, h1, h2⟩ := b _ a1
            exact ⟨v, h1, p.mono fs h2⟩
          · rw [a2] at hp
            cases hp
            obtain ⟨v, h1, h2⟩ := b _ a1
            exact ⟨v, h1, h2.1⟩
          · rw [a2] at hp
            cases hp
            obtain ⟨v, h1, h2⟩ := b _ a1
            exact ⟨v, h1, a3 _ _ _ h2⟩
    exact this hb env
/-- lists of lists, lent -/
theorem Lend.nest {α : Type} {r : Rep α} {G : Addr} {ga : List Addr} {ls : List (List α)} {Θx : List Cel} {F0 Fc : Hp} (hl : Lend fr (cL G zRef ga :: (cells r ga ls ++ Θx)) F0 Fc) (hn : ga.length = ls.length) : ∀ F v, Same Fc F → (zAt G).p F0 v → (zBoth G (iz (zL (zL r)) ls)).p F v := fun F v hs hv => by
  have hv : v = .ref G := hv
  subst hv
  refine ⟨rfl, ?_⟩
  obtain ⟨_, ⟨o, h2, vs, rfl, h3⟩, _⟩ := hl.ce _ (.head _)
  have key : ∀ {ga : List Addr} {ls : List (List α)}, ga.length = ls.length → (∀ c ∈ cells r ga ls, ∃ o, Fc c.a = some o ∧ c.φ F0 o) → ∀ {vs : List V}, PVs zRef F0 vs ga → PVs (zL r) F vs ls := by
    intro ga
    induction ga with
    | nil =>
      intro ls h1 h2 vs hp
      cases hp
      cases ls with
      | nil => exact .nil
      | cons => cases h1
    | cons a ga ih =>
      intro ls h1 h2 vs hp
      cases ls with
      | nil => cases h1
      | cons l ls =>
        cases hp with
        | cons x y =>
          have x : _ = V.ref a := x
          subst x
          obtain ⟨o, c1, us, rfl, c3⟩ := h2 (cL a r l) (.head _)
          exact .cons ⟨a, us, rfl, hs _ _ c1, Paired.imp2 (fun _ _ h => r.mono (hl.s.trans hs) h) c3⟩ (ih (by simpa using h1) (fun c hc => h2 c (.tail _ hc)) y)
  exact ⟨G, vs, rfl, hs _ _ h2, key hn (fun c hc => (hl.ce c (.tail _ (List.mem_append_left _ hc))).2.1) h3⟩
/-- a list, lent -/
theorem Lend.lst {α : Type} {r : Rep α} {G : Addr} {xs : List α} {Θx : List Cel} {F0 Fc : Hp} (hl : Lend fr (cL G r xs :: Θx) F0 Fc) : ∀ F v, Same Fc F → (zAt G).p F0 v → (zBoth G (iz (zL r) xs)).p F v := fun F v hs hv => by
  have hv : v = .ref G := hv
  subst hv
  obtain ⟨_, ⟨o, h2, vs, rfl, h3⟩, _⟩ := hl.ce _ (.head _)
  exact ⟨rfl, G, vs, rfl, hs _ _ h2, Paired.imp2 (fun _ _ h => r.mono (hl.s.trans hs) h) h3⟩
end
end L2

set_option Elab.async false
set_option linter.all false
set_option maxRecDepth 100000
set_option maxHeartbeats 4000000
/-! The ground: defs that draw from the law's box. -/
namespace L2
open PySem PySem.Spec PyProof.Rows PySem.HErr
abbrev PreB := List Vp → (Vp → Prop) → Prop
/-- the first argument is the box; what comes out is one of o -/
def preB (q : PreB) : PreC := fun ps Θ out err => ∃ b l qs o, ps = zAt b :: qs ∧ Θ = [cBox true b l] ∧ q qs o ∧ out = (fun p Θ' => o p ∧ Θ' = [cBox true b l]) ∧ err = fun _ _ => False
section
variable {fr : Fr} {Γ Γ' : Gam} {Θ Θ' Θn : List Cel} {F F' H H' : Hp} {K : Vp → List Cel → Prop} {Q : VK}
theorem perm_of_mem {c : Cel} (h : c ∈ Θ) : ∃ Θr, Θ.Perm ([c] ++ Θr) := by
  obtain ⟨s, t, rfl⟩ := List.append_of_mem h
  exact ⟨s ++ t, List.perm_middle⟩
theorem sps_B {q : PreB} {E : L2.St → XK} {b l : Addr} {qs : List Vp} {o : Vp → Prop} (hc : cBox true b l ∈ Θ) (hq : q qs o) (k : ∀ p, o p → K p Θ) : Sps fr Γ Θ (spC (preB q)) E (zAt b :: qs) K := fun σ F H vs ok env hps Q kq => by
  obtain ⟨Θr, pm⟩ := perm_of_mem hc
  have ok1 := ok.perm pm
  exact ⟨F, _, [cBox true b l], _, _, ok1.fh, ok1.cellsAt, hps, ⟨b, l, qs, o, rfl, rfl, hq, rfl, rfl⟩, fun p Θ' ⟨ho, hΘ⟩ v F' H' ef h => by
    subst hΘ
    exact kq p Θ (k p ho) v F' H' ef.ff ((ok1.eff ef).perm pm.symm) h, fun e Θ' he => he.elim⟩
def RetB (fr : Fr) (Q : VK) (b l : Addr) (o : Vp → Prop) : Prop := ∀ p, o p → ∀ Θ, cBox true b l ∈ Θ → Rt fr Θ Q p
theorem RetB.fine {fr' : Fr} {b l : Addr} {o : Vp → Prop} (h : RetB fr Q b l o) (le : FrLe fr fr') : RetB fr' Q b l o := fun p hp Θ hc => (h p hp Θ hc).fine le
end
section
variable {P : Program} {w : World} {K : PySem.W.Frag} {mg : Str → Option Value} {base : Heap} {x : Str} {st : Stmt} {N ps : List Str} {k : Nat} {q : PreB}
theorem Src.okB (F : Src K mg x st ps) (S : FnScope N ps (defScope st)) (len : ∀ qs o, q qs o → qs.length + 1 = ps.length)
    (hbody : ∀ (f : Addr) (cdv : Value) (A : Around) (outer : List Env) (s : Shared) (H : Hp) (E : XK) (b l : Addr) (qs : List Vp) (o : Vp → Prop), Room k (A.deeper (envOfC x (defScope st) s.heap.objs.size f cdv)) → q qs o →
      ∃ t, PSs (cxOf CX0 P w K mg base N x (defScope st) f cdv A outer s H E).nox (defBody st) t ∧ ∀ fr Q, RetB fr Q b l o → Kn fr (envOf N (zAt b :: qs)) [cBox true b l] (t { nx := fun _ H' => Q .non H', rt := Q })) : Def P w K mg base CX0 (k + 1) x ps (spC (preB q)) := by
  refine F.okC S (fun qs Θ out err ⟨b, l, qs', o, h1, h2, h3, _⟩ => ⟨by rw [h1]; exact len _ _ h3, fun c hc => by rw [h2] at hc; rw [List.mem_singleton.mp hc]; rfl⟩) (fun f cdv A outer s H E qs Θ out err hr hpre => ?_)
  obtain ⟨b, l, qs', o, rfl, rfl, h3, rfl, rfl⟩ := hpre
  obtain ⟨t, ht, hk⟩ := hbody f cdv A outer s H E b l qs' o hr h3
  refine ⟨t, ht, fun fr Q hret => hk fr Q fun p hp Θ hc => ?_⟩
  obtain ⟨Θr, pm⟩ := perm_of_mem hc
  exact hret p [cBox true b l] ⟨hp, rfl⟩ rfl Θ Θr pm
end
section
variable {P : Program} {w : World} {K : PySem.W.Frag} {mg : Str → Option Value} {base : Heap}
/-- new objects but the box are frozen -/
def newB (F H H' : Hp) (b : Addr) : Hp := fun a => if a = b then none else match H a with
  | none => H' a
  | some _ => F a
theorem newB_at {F H H' : Hp} {a b : Addr} {o : HO} (ne : a ≠ b) (n : H a = none) (h : H' a = some o) : newB F H H' b a = some o := by
  unfold newB
  rw [if_neg ne, n]
  exact h
theorem eff_box {F H H' : Hp} {b l : Addr} (fh : Same F H) (fb : F b = none) (hc : ∃ o, H b = some o ∧ (cBox true b l).φ F o) (bx : Bx b l H H') : Eff F H [cBox true b l] (newB F H H' b) H' [cBox true b l] := by
  obtain ⟨o, h1, ns', _, _, _, e0, e1, e2⟩ := hc
  have s1 : Same F (newB F H H' b) := fun a o h => by
    unfold newB
    rw [if_neg (fun e => by rw [e, fb] at h; cases h), fh a o h]
    exact h
  have s2 : Same (newB F H H' b) H' := fun a o h => by
    unfold newB at h
    split at h
    · cases h
    · rename_i ne
      cases q : H a with
      | none => rw [q] at h; exact h
      | some u => rw [q] at h; exact bx.sm a o ne (fh a o h)
  obtain ⟨ns, i, c, r, d1, d2, d3, d4⟩ := bx.b1.ex
  refine ⟨fun a o hn h => bx.sm a o (fun e => hn (List.mem_singleton.mpr e)) h, s1, s2, fun a o h => ?_, ⟨by simp, fun c' hc' => ?_⟩, rfl⟩
  · unfold newB at h
    split at h
    · cases h
    · cases q : H a with
      | none => exact .inr (.inl q)
      | some u => rw [q] at h; exact .inl ⟨o, h⟩
  · rw [List.mem_singleton.mp hc']
    refine ⟨if_pos rfl, _, d1, ns', i, c, r, rfl, s1 _ _ e1, d3⟩
/-- _law_words(box, many) -/
def preWords : PreB := fun qs o => ∃ many : Nat, qs = [iz zI many] ∧ many ≤ 30 ∧ o = fun p => ∃ ws : List Str, ws.length = many ∧ ws.Nodup ∧ (∀ z ∈ ws, Wd z) ∧ p = iz (zL zS) ws
/-- _law_word(box) -/
def preWord : PreB := fun qs o => qs = [] ∧ o = fun p => ∃ z : Str, Wd z ∧ p = iz zS z
end
theorem okf_box1 {H : Hp} {b l : Addr} (h : Box H b l) : OkF ⟨minus H b, minus H b, []⟩ [cBox true b l] (minus H b) H := by
  obtain ⟨ns, i, c, r, h1, h2, h3, h4⟩ := h.ex
  have hm : ∀ a o, minus H b a = some o → H a = some o := fun a o h => by
    by_cases e : a = b
    · rw [e, minus_self] at h; cases h
    · rw [minus_ne e] at h; exact h
  refine ⟨fun a o h => hm a o h, Same.refl _, fun a o h => .inl ⟨o, h⟩, fun a o _ h => hm a o h, fun a o h => ⟨o, hm a o h⟩, by simp, fun c' hc => ?_⟩
  rw [List.mem_singleton.mp hc]
  exact ⟨minus_self, ⟨_, h1, ns, i, c, r, rfl, by rw [minus_ne h4]; exact h2, h3⟩, minus_self⟩
theorem enter1 {H : Hp} {b l : Addr} {σ : L2.St} {Γ : Gam} {P : L2.St → Hp → Prop} (h : Box H b l) (e : EnvF Γ σ (minus H b)) (k : ∀ fr, Kn fr Γ [cBox true b l] P) : P σ H := k _ σ _ H (okf_box1 h) e
/-- a loop over a thing that is found by its own way -/
theorem kn_forN {fr : Fr} {Γ : Gam} {Θ : List Cel} {α : Type} {r : Rep α} {A : List α → List Cel → Prop} {wi : TI} {g : TG} {tb : TS} {D : Ends} (it : Wi fr Γ Θ wi fun its Θ1 => ∃ xs : List α, its = xs.map (iz r) ∧ A xs Θ1)
    (k : ∀ xs Θ1, A xs Θ1 → ∀ fr' wi', FrLe fr fr' → Wi fr' Γ Θ1 wi' (fun its Θ2 => its = xs.map (iz r) ∧ Θ2 = Θ1) → Kn fr' Γ Θ1 (tFor wi' g tb D)) : Kn fr Γ Θ (tFor wi g tb D) := fun σ F H ok env =>
  it σ F H ok env _ fun its Θ1 ⟨xs, e, hA⟩ J F1 H1 s1 ok1 jok => by
    subst e
    have up : OkF ⟨F1, fr.H0, fr.B⟩ Θ1 F1 H1 := ⟨ok1.fh, Same.refl _, fun a o h => .inl ⟨o, h⟩, ok1.h0, ok1.al, ok1.nd, ok1.ce⟩
    exact k xs Θ1 hA ⟨F1, fr.H0, fr.B⟩ (fun _ H R => R J H) ok1.fine (fun σ2 F2 H2 ok2 env2 R q => q _ Θ1 ⟨rfl, rfl⟩ J F2 H2 (Same.refl _) ok2 fun F3 H3 s3 fh3 => jok F3 H3 (ok2.f0.trans s3) fh3) σ F1 H1 up (env.mono s1)
/-- [[] for x in xs]: lists of one's own -/
theorem we_lcNil {fr : Fr} {Γ : Gam} {Θ : List Cel} {K : Vp → List Cel → Prop} {α β : Type} {r : Rep α} (s : Rep β) {xs : List α} {wi : TI} {g : TG} {vs : List Nat} {Γ2 : α → Gam}
    (it : Wi fr Γ Θ wi fun its Θ1 => its = xs.map (iz r) ∧ Θ1 = Θ) (hl : xs.length ≤ 1000) (tg : ∀ x, TgR g vs (iz r x) (wipeG Γ vs) (Γ2 x))
    (k : ∀ a as, as.length = xs.length → K (zAt a) (cL a zRef as :: (cells s as (List.replicate xs.length []) ++ Θ))) : We fr Γ Θ (tLc wi g tYes (tLst tNil) vs) K := fun σ F H ok env Q q => by
  refine it σ F H ok env _ fun its Θ1 ⟨e1, e2⟩ J F1 H1 s1 ok1 jok => ?_
  subst e1 e2
  intro D nD
  refine ⟨fun i m H' => m = xs.length - i ∧ i ≤ xs.length ∧ ∃ F2 as, Same F1 F2 ∧ as.length = i ∧ OkF fr (cL D zRef as :: (cells s as (List.replicate i []) ++ Θ1)) F2 H', ⟨xs.length, by simp, Nat.zero_le _, F1, [], Same.refl _, rfl, ok1.mkOwn (c := cL D zRef []) nD rfl ⟨[], rfl, .nil⟩⟩, ?_⟩
  rintro i m H' ⟨rfl, hi, F2, as, s2, la, ok2⟩
  obtain ⟨j1, j2⟩ := jok F2 H' s2 ok2.fh
  by_cases hlt : i < xs.length
  · have hx : xs[i]? = some xs[i] := List.getElem?_eq_getElem hlt
    generalize xs[i] = x at hx
    obtain ⟨jg, jy⟩ := j1 i (iz r x) (by rw [List.getElem?_map, hx]; rfl)
    refine .inr ⟨jg, fun H3 => ∃ F3 as, Same F1 F3 ∧ as.length = i + 1 ∧ OkF fr (cL D zRef as :: (cells s as (List.replicate (i + 1) []) ++ Θ1)) F3 H3, fun H3 p => ⟨xs.length - (i + 1), by omega, rfl, hlt, p⟩, fun v H3 y => ?_⟩
    obtain ⟨F3, e1, e2, e3, e4, e5⟩ := jy v H3 y
    have ok3 := ok2.grow e2 e1 e3 e4
    have s3 := s2.trans e1
    refine tg x (L2.wipe σ vs) F3 H3 v ok3.fh ((env.mono (s1.trans s3)).wipe vs) e5 _ fun σ2 env2 hw => ⟨by rw [hw, wipe_idem], ?_⟩
    refine yes_if ?_
    refine ⟨Nat.zero_le _, fun c nc => ?_⟩
    have ok4 := ok3.mkOwn (c := cL c s []) (o := .lst []) nc rfl ⟨[], rfl, .nil⟩
    obtain ⟨_, ⟨o, h2, acc, rfl, h4⟩, _⟩ := ok4.ce (cL D zRef as) (.tail _ (.head _))
    have ok5 := ok4.mut (i := 1) (c := cL D zRef as) (c' := cL D zRef (as ++ [c])) (o := .lst (acc ++ [.ref c])) rfl rfl rfl ⟨_, rfl, PySem.Paired.snoc h4 (show zRef.p F3 (.ref c) c from rfl)⟩
    refine ⟨acc, h2, by rw [Paired.len h4, la]; exact small1000 (by omega), F3, as ++ [c], s3, by rw [List.length_append, la]; rfl, ok5.perm ?_⟩
    rw [List.replicate_succ', cells_snoc (by rw [la, List.length_replicate]), List.append_assoc]
    exact (List.Perm.swap _ _ _).trans (.cons _ List.perm_middle.symm)
  · have e : i = xs.length := by omega
    subst e
    exact .inl ⟨by rw [List.length_map] at j2; exact j2, q _ _ (k D as la) _ F2 H' (s1.trans s2) ok2 rfl⟩
/-- a list of two things -/
def zLp {α β : Type} (r : Rep α) (s : Rep β) : Rep (α × β) := ⟨fun F v x => ∃ a u w, v = .ref a ∧ F a = some (.lst [u, w]) ∧ r.p F u x.1 ∧ s.p F w x.2, fun e ⟨a, u, w, h1, h2, h3, h4⟩ => ⟨a, u, w, h1, e _ _ h2, r.mono e h3, s.mono e h4⟩⟩
section
variable {fr : Fr} {Γ : Gam} {Θ : List Cel} {K : Vp → List Cel → Prop}
theorem we_lstp {α β : Type} {r : Rep α} {s : Rep β} {t : TA} (w : Wa fr Γ Θ t fun ps Θ1 => ∃ x y, ps = [iz r x, iz s y] ∧ K (iz (zLp r s) (x, y)) Θ1) : We fr Γ Θ (tLst t) K := fun σ F H ok env Q q =>
  w σ F H ok env _ fun ps Θ1 ⟨x, y, e, k⟩ vs F1 H1 s1 ok1 hps => ⟨small_len hps (by rw [e]; simp), fun a na => by
    subst e
    have hps := ps_mono (ok1.sameF (o := .lst vs) na) hps
    cases hps with
    | cons h1 hp => cases hp with
      | cons h2 hp => cases hp with
        | nil => exact (q.mono s1).new k ok1 na ⟨a, _, _, rfl, upd_same, h1, h2⟩⟩
theorem tgLp {Kf : PySem.W.Frag} {i j : Nat} {α β : Type} {r : Rep α} {s : Rep β} {x : α × β} (hij : i ≠ j) (g : TG) (hg : ∀ v σ H Q, (∃ a xs, v = .ref a ∧ SqL Kf H a xs ∧ xs.length = 2 ∧ gCons (gName i) (gCons (gName j) gNil) xs σ H Q) → g v σ H Q) : TgR g [i, j] (iz (zLp r s) x) Γ ((Γ.set i (some (iz r x.1))).set j (some (iz s x.2))) := fun σ F H v fh env hp Q q => by
  obtain ⟨a, u, w, rfl, h2, h4, h5⟩ := hp
  refine hg _ _ _ _ ⟨a, _, rfl, SqL.of (fh _ _ h2), rfl, _, _, rfl, _, _, rfl, rfl, q _ ((env.set (p := iz r x.1) h4).set (p := iz s x.2) h5) ?_⟩
  show ((((σ.set i (some _)).set j (some _)).set j none).set i none) = (σ.set j none).set i none
  rw [List.set_set, set_comm' hij, List.set_set]
end
theorem cutX_drop {α : Type} (xs : List α) (n : Nat) : cutX xs (some (n : Int)) none = xs.drop n := by
  unfold cutX
  rw [HT.sIx_none, HT.sIx_nat]
  by_cases h : n ≤ xs.length
  · rw [Nat.min_eq_left h]
    exact List.take_of_length_le (by rw [List.length_drop]; exact Nat.le_refl _)
  · rw [Nat.min_eq_right (by omega), List.drop_length, List.drop_of_length_le (by omega), List.take_nil]
theorem cutX_take {α : Type} (xs : List α) (n : Nat) : cutX xs none (some (n : Int)) = xs.take n := by
  unfold cutX
  rw [HT.sIx_none, HT.sIx_nat]
  show List.take (min n xs.length - 0) (List.drop 0 xs) = _
  rw [List.drop_zero, Nat.sub_zero, Nat.min_comm]
  by_cases h : n ≤ xs.length
  · rw [Nat.min_eq_right h]
  · rw [Nat.min_eq_left (by omega), List.take_length, List.take_of_length_le (by omega)]
theorem cb_listO {fr : Fr} {Θ : List Cel} {K : Vp → List Cel → Prop} {Kf : PySem.W.Frag} {α : Type} {r : Rep α} {xs : List α} {p : Vp} (h : SeqP fr Θ p r xs) (k : ∀ a, K (zAt a) (cL a r xs :: Θ)) : Cbs fr Θ (rListQ Kf) [p] K := fun F H vs ok hps Q q => by
  cases hps with
  | cons h1 hp => cases hp with
    | nil =>
      obtain ⟨a, us, rfl, h2, h3⟩ := h F H _ ok h1
      exact ⟨a, us, rfl, sq_or h2, fun l nl => q _ _ (k l) _ F _ (Same.refl F) (ok.mkOwn (c := cL l r xs) nl rfl ⟨us, rfl, h3⟩) rfl⟩
end L2

set_option Elab.async false
set_option linter.all false
set_option maxRecDepth 100000
set_option maxHeartbeats 4000000
/-! The ground: list.index, str.join, list * int, None or a thing. -/
namespace L2
open PySem PySem.Spec PyProof.Rows PySem.HErr
section
variable {fr : Fr} {Γ Γ' : Gam} {Θ : List Cel} {F F' H H' : Hp} {K : Vp → List Cel → Prop} {Q : VK}
theorem tyl_L {α : Type} {r : Rep α} {xs : List α} {Kf : PySem.W.Frag} : ∀ F H v, OkF fr Θ F H → (iz (zL r) xs).p F v → tyV Kf "list" v H := fun F H v ok ⟨a, vs, h1, h2, _⟩ => by
  subst h1
  exact .inl ⟨rfl, vs, SqL.of (ok.fh _ _ h2)⟩
theorem eqV_str {a b : Str} : eqV (.str a) (.str b) = decide (a = b) := by
  unfold eqV
  rfl
theorem mts_index {Kf : PySem.W.Frag} {xs : List Str} {x : Str} (hx : x ∈ xs) (k : K (iz zI (xs.idxOf x : Nat)) Θ) : Mts fr Θ (rIndex Kf) (iz (zL zS) xs) [iz zS x] K := fun F H v vs ok hv hps Q q => by
  obtain ⟨a, us, rfl, h2, h3⟩ := hv
  obtain ⟨rfl, _⟩ := pvs_S h3
  cases hps with
  | cons h1 hp => cases hp with
    | nil =>
      obtain ⟨rfl, ha⟩ := h1
      have hl : xs.idxOf x < xs.length := List.idxOf_lt_length_iff.mpr hx
      refine ⟨a, _, _, xs.idxOf x, .str x, rfl, rfl, SqL.of (ok.fh _ _ h2), rfl, ?_, ?_, ?_, fun m z hm hz => ?_, q.go k ok rfl⟩
      · rw [List.all_map, List.all_eq_true]
        intro y hy
        rfl
      · rw [List.getElem?_map, List.getElem?_eq_getElem hl, List.getElem_idxOf]
        rfl
      · rw [eqV_str]
        exact decide_eq_true rfl
      · rw [List.getElem?_map, List.getElem?_eq_getElem (by omega)] at hz
        cases hz
        rw [eqV_str]
        have := List.not_of_lt_findIdx hm
        exact decide_eq_false (by simpa using this)
theorem mts_join {Kf : PySem.W.Frag} {xs : List Str} {x : Str} (hs : (xs.map (·.length)).sum + xs.length * x.length ≤ 16777216) (k : K (iz zS (Txt.join x xs)) Θ) (ha : Asc (Txt.join x xs)) : Mts fr Θ (fun x xs H Q => ∃ a p, ∃ ys : List Str, x = .str a ∧ xs = [.ref p] ∧ (SqL Kf H p (ys.map V.str) ∨ SqT Kf H p (ys.map V.str)) ∧
    (ys.map (·.length)).sum + ys.length * a.length ≤ 16777216 ∧ Q (.str (Txt.join a ys)) H) (iz zS x) [iz (zL zS) xs] K := fun F H v vs ok hv hps Q q => by
  obtain ⟨rfl, _⟩ := hv
  cases hps with
  | cons h1 hp => cases hp with
    | nil =>
      obtain ⟨a, us, rfl, h2, h3⟩ := h1
      obtain ⟨rfl, _⟩ := pvs_S h3
      exact ⟨x, a, xs, rfl, rfl, .inl (SqL.of (ok.fh _ _ h2)), hs, q.go k ok ⟨rfl, ha⟩⟩
theorem tyl_S {x : Str} {Kf : PySem.W.Frag} : ∀ F H v, OkF fr Θ F H → (iz zS x).p F v → tyV Kf "str" v H := fun F H v ok ⟨h1, _⟩ => by
  subst h1
  exact rfl
theorem flat_pvs {α : Type} {r : Rep α} {vs : List V} {xs : List α} (h : PVs r F vs xs) : ∀ n : Nat, PVs r F (List.replicate n vs).flatten (List.replicate n xs).flatten
  | 0 => .nil
  | n + 1 => by
    rw [List.replicate_succ, List.replicate_succ, List.flatten_cons, List.flatten_cons]
    exact Paired.app h (flat_pvs h n)
theorem ops_rep {α : Type} {r : Rep α} {xs : List α} {n : Int} (h0 : -(2 ^ 63) ≤ n) (h1 : n < 2 ^ 63) (hl : xs.length * n.toNat ≤ sizeLine) (k : K (iz (zL r) (List.replicate n.toNat xs).flatten) Θ) : Ops fr Θ rRep (iz (zL r) xs) (iz zI n) K := fun F H v w ok hv hw Q q => by
  obtain ⟨a, vs, rfl, h2, h3⟩ := hv
  have hw : w = .int n := hw
  subst hw
  exact ⟨a, n, vs, rfl, rfl, ok.fh _ _ h2, h0, h1, by rw [Paired.len h3]; exact hl, fun l nl => q.new k ok nl ⟨l, _, rfl, upd_same, Paired.imp2 (fun _ _ h => r.mono (ok.sameF nl) h) (flat_pvs h3 _)⟩⟩
theorem flat_one {α : Type} (x : α) : ∀ n : Nat, (List.replicate n [x]).flatten = List.replicate n x
  | 0 => rfl
  | n + 1 => by rw [List.replicate_succ, List.flatten_cons, flat_one x n]; rfl
/-! None or a thing -/
def optP {α : Type} (r : Rep α) : Option α → Vp
  | none => zNon
  | some x => iz r x
class NotNon {α : Type} (r : Rep α) : Prop where
  nn : ∀ F v x, r.p F v x → v ≠ .non
instance {α : Type} {r : Rep α} : NotNon (zL r) := ⟨fun F v x ⟨a, vs, h, _⟩ => by rw [h]; exact fun q => by cases q⟩
instance {α : Type} {r : Rep α} : NotNon (zT r) := ⟨fun F v x ⟨a, vs, h, _⟩ => by rw [h]; exact fun q => by cases q⟩
instance {α β : Type} {r : Rep α} {s : Rep β} : NotNon (z2 r s) := ⟨fun F v x ⟨a, u, w, h, _⟩ => by rw [h]; exact fun q => by cases q⟩
instance {α β γ : Type} {r : Rep α} {s : Rep β} {t : Rep γ} : NotNon (z3 r s t) := ⟨fun F v x ⟨a, u, w, z, h, _⟩ => by rw [h]; exact fun q => by cases q⟩
instance : NotNon zI := ⟨fun F v x h => by rw [show v = .int x from h]; exact fun q => by cases q⟩
instance : NotNon zS := ⟨fun F v x h => by rw [h.1]; exact fun q => by cases q⟩
theorem ops_isO {α : Type} {r : Rep α} [NotNon r] {o : Option α} (k : K (iz zB o.isNone) Θ) : Ops fr Θ (fun x y H Q => y = .non ∧ Q (.bl (decide (x = .non))) H) (optP r o) zNon K := fun F H v w ok hv hw Q q => by
  refine ⟨hw, q.go k ok ?_⟩
  show V.bl _ = V.bl _
  cases o with
  | none => rw [show v = .non from hv]; rfl
  | some x => rw [decide_eq_false (NotNon.nn F v x hv)]; rfl
theorem ops_notO {α : Type} {r : Rep α} [NotNon r] {o : Option α} (k : K (iz zB o.isSome) Θ) : Ops fr Θ (fun x y H Q => y = .non ∧ Q (.bl (!decide (x = .non))) H) (optP r o) zNon K := fun F H v w ok hv hw Q q => by
  refine ⟨hw, q.go k ok ?_⟩
  show V.bl _ = V.bl _
  cases o with
  | none => rw [show v = .non from hv]; rfl
  | some x => rw [decide_eq_false (NotNon.nn F v x hv)]; rfl
theorem ops_isX {α : Type} {r : Rep α} [NotNon r] {x : α} (k : K (iz zB false) Θ) : Ops fr Θ (fun x y H Q => y = .non ∧ Q (.bl (decide (x = .non))) H) (iz r x) zNon K := ops_isO (o := some x) k
theorem ops_notX {α : Type} {r : Rep α} [NotNon r] {x : α} (k : K (iz zB true) Θ) : Ops fr Θ (fun x y H Q => y = .non ∧ Q (.bl (!decide (x = .non))) H) (iz r x) zNon K := ops_notO (o := some x) k
theorem ops_isN (k : K (iz zB true) Θ) : Ops fr Θ (fun x y H Q => y = .non ∧ Q (.bl (decide (x = .non))) H) zNon zNon K := ops_isO (r := zI) (o := none) k
theorem ops_notN (k : K (iz zB false) Θ) : Ops fr Θ (fun x y H Q => y = .non ∧ Q (.bl (!decide (x = .non))) H) zNon zNon K := ops_notO (r := zI) (o := none) k
end
section
variable {X : Cx} {K : PySem.W.Frag} {o e : Expr} {es : List Expr} {to : TE} {t : TA} {name : Str} {apos cpos : Pos} {T id : String} {r : V → List V → Hp → VK → Prop}
theorem kpe_bm (pa : PlainAttrs T) (slot : Slot T name id) (hty : typeOf (.builtin id) = pure (.type "method_descriptor")) (hm : MtR X id r) (ho : PE X o to) (ha : PA X (e :: es) t)
    (hbase : attributeBase o name X.env (eval o X.env) = eval o X.env := by rfl)
    (hfew : ((backTo cpos (starEach (e :: es) X.env)).all (fun x => !x.1) && (backToKw cpos (keywordEach [] X.env)).all (fun x => x.1.isSome)
      && decide ((e :: es).length + ([] : List Keyword).length + (if ([] : List Keyword).isEmpty then 0 else 1) < 30)) = true := by rfl)
    (hline : (apos.endLine == cpos.line) = true := by rfl) (hs : starEach (e :: es) X.env = (false, eval e X.env) :: starEach es X.env := by rfl) (hplain : (backTo cpos (starEach es X.env)).any (·.1) = false := by rfl) (h : X.K = K := by rfl) :
    PE X (.Call (.Attribute o name apos) (e :: es) [] cpos) (tBM K T r to t) := h ▸ pe_bm pa slot hty hm ho ha hbase hfew hline hs hplain
theorem kmt_index (h : X.K = K := by rfl) : MtR X "list.index" (rIndex K) := h ▸ mt_index
end
end L2

set_option Elab.async false
set_option linter.all false
set_option maxRecDepth 100000
set_option maxHeartbeats 4000000
/-! Special methods of own classes: in, len, brackets, ==. -/
namespace L2
open PySem PySem.Spec PyProof.Rows PySem.HErr
section
variable {P : Program} {w : World} {A : Around} {E : Value → Shared → Prop} {s : Shared} {K : PySem.W.Frag} {a C f dx : Addr} {mA : Str → Option Value} {name : Str} {args : List Value}
theorem bindS (X : K.In s.heap) (hm : Meth K C name f) {self : Value} {Q : Value × List Value → Shared → Prop} (h : Q (.ref f, [self]) s) : wpAny (model P w) A (bindSpecial (.ref f) self) Q E s :=
  (PySem.W.bind_fn X self (beq_iff_eq.mp hm.fn)).here h
theorem special_own {Q : Option Value → Shared → Prop} (X : K.In s.heap) (I : ObjM s.heap a dx C mA) (hm : Meth K C name f)
    (hc : wpAny (model P w) A (call (.ref f) (.ref a :: args)) (fun v s' => Q (some v) s') E s) : wpAny (model P w) A (callSpecial? (.ref a) name args) Q E s := by
  obtain ⟨od, J, _⟩ := I.look
  unfold callSpecial? specialOf
  refine wpAny_bind (wpAny_bind (J.type.here ((PySem.W.looks_findIn X hm.at_).here ?_)))
  refine wpAny_holding ?_
  refine wpAny_bind (bindS X hm ?_)
  exact wpAny_bind (wpAny_mono hc (fun v s' h => wpAny_pure h) fun _ _ z => z)
theorem contains_own {x : Value} {Q : Bool → Shared → Prop} (X : K.In s.heap) (I : ObjM s.heap a dx C mA) (hm : Meth K C "__contains__" f)
    (hc : wpAny (model P w) A (call (.ref f) [.ref a, x]) (fun v s' => ∃ b, v = .bool b ∧ Q b s') E s) : wpAny (model P w) A (contains (.ref a) x) Q E s := by
  obtain ⟨od, J, _⟩ := I.look
  unfold contains
  refine wpAny_holding ?_
  rw [stdlibNamesSay?_ref]
  dsimp only
  unfold specialOf
  refine wpAny_bind (wpAny_bind (J.type.here ((PySem.W.looks_findIn X hm.at_).here ?_)))
  rw [if_neg (by simp)]
  unfold callSpecialUnlessNone? specialOf
  refine wpAny_bind (wpAny_bind (wpAny_bind (J.type.here ((PySem.W.looks_findIn X hm.at_).here ?_))))
  refine wpAny_holding ?_
  refine wpAny_bind (bindS X hm ?_)
  dsimp only
  rw [if_neg (by simp)]
  refine wpAny_bind (wpAny_mono hc (fun v s' ⟨b, e, h⟩ => wpAny_pure ?_) fun _ _ z => z)
  subst e
  exact wpAny_pure h
end
/-- y in p, p an instance of the class at C whose __contains__ says sp -/
def tInO (C : Addr) (sp : Sp) (E : St → XK) (ty tp : TE) : TE := fun σ H Q => ty σ H fun y H1 => tp σ H1 fun x H2 => ∃ a dx fs, x = .ref a ∧ H2 a = some (.ins C dx fs) ∧ sp [.ref a, y] H2 (fun v H3 => ∃ b, v = .bl b ∧ Q (.bl b) H3) (E σ)
def tNotInO (C : Addr) (sp : Sp) (E : St → XK) (ty tp : TE) : TE := fun σ H Q => ty σ H fun y H1 => tp σ H1 fun x H2 => ∃ a dx fs, x = .ref a ∧ H2 a = some (.ins C dx fs) ∧ sp [.ref a, y] H2 (fun v H3 => ∃ b, v = .bl b ∧ Q (.bl (!b)) H3) (E σ)
section
variable {X : Cx} {CX : CXT} {k : Nat} {C : Addr} {ps : List Str} {sp : Sp} {E : St → XK} {i o : Expr} {ty tp : TE}
theorem pc_inO (D : DefM X.prog X.w X.K X.mg X.base CX k C "__contains__" ps sp) (hr : Room k X.A) (hx : ∀ σ, PassesAt CX X σ (E σ)) (hi : PE X i ty) (ho : PE X o tp) : PC X .In i o (tInO C sp E ty tp) := by
  obtain ⟨f, fd, hlk, hm, hb, F⟩ := D.ex
  refine ⟨fun pins s σ H Q I h => ?_⟩
  refine thn (hi.run pins s σ H _ I h) fun iv s1 ⟨y, H1, I1, ry, q1⟩ => thn (ho.run pins s1 σ H1 _ I1 q1) fun u s2 ⟨x, H2, I2, rx, a, dx, fs, ex, ea, q2⟩ => ?_
  subst ex
  obtain rfl : u = Value.ref a := rx
  obtain ⟨mA, O, _⟩ := ins_get I2.hok ea
  unfold compareOp
  refine wpAny_bind (contains_own I2.kIn O hm (wpAny_mono (run_fnS (us := [.ref a, iv]) (vs := [.ref a, y]) F hr hb (hx σ) I2 (.cons rfl (.cons ry .nil)) q2) (fun v s3 ⟨z, H3, I3, rz, b, e, q3⟩ => ?_) fun _ _ z => z))
  subst e
  cases rz
  exact ⟨b, rfl, wpAny_pure ⟨.bl b, H3, I3, rfl, q3⟩⟩
theorem pc_notinO (D : DefM X.prog X.w X.K X.mg X.base CX k C "__contains__" ps sp) (hr : Room k X.A) (hx : ∀ σ, PassesAt CX X σ (E σ)) (hi : PE X i ty) (ho : PE X o tp) : PC X .NotIn i o (tNotInO C sp E ty tp) := by
  obtain ⟨f, fd, hlk, hm, hb, F⟩ := D.ex
  refine ⟨fun pins s σ H Q I h => ?_⟩
  refine thn (hi.run pins s σ H _ I h) fun iv s1 ⟨y, H1, I1, ry, q1⟩ => thn (ho.run pins s1 σ H1 _ I1 q1) fun u s2 ⟨x, H2, I2, rx, a, dx, fs, ex, ea, q2⟩ => ?_
  subst ex
  obtain rfl : u = Value.ref a := rx
  obtain ⟨mA, O, _⟩ := ins_get I2.hok ea
  unfold compareOp
  refine wpAny_bind (contains_own I2.kIn O hm (wpAny_mono (run_fnS (us := [.ref a, iv]) (vs := [.ref a, y]) F hr hb (hx σ) I2 (.cons rfl (.cons ry .nil)) q2) (fun v s3 ⟨z, H3, I3, rz, b, e, q3⟩ => ?_) fun _ _ z => z))
  subst e
  cases rz
  exact ⟨b, rfl, wpAny_pure ⟨.bl (!b), H3, I3, rfl, q3⟩⟩
end
section
variable {P : Program} {w : World} {A : Around} {E : Value → Shared → Prop} {s : Shared} {K : PySem.W.Frag} {a C f dx : Addr} {mA : Str → Option Value} {name : Str} {args : List Value}
theorem getItem_own {x : Value} {Q : Value → Shared → Prop} (X : K.In s.heap) (I : ObjM s.heap a dx C mA) (hm : Meth K C "__getitem__" f) (nd : PySem.W.mroIn K C (.type "collections.deque") = some false)
    (hc : wpAny (model P w) A (call (.ref f) [.ref a, x]) Q E s) : wpAny (model P w) A (getItem (.ref a) x) Q E s := by
  obtain ⟨od, J, _⟩ := I.look
  have dq : PySem.W.Looks (model P w) s.heap (seqItemTypes.anyM fun n => isSubtype (.ref C) (.type n)) false := by
    show PySem.W.Looks (model P w) s.heap (isSubtype (.ref C) (.type "collections.deque") >>= fun b => _) false
    exact (PySem.W.looks_mroIn X nd).andThen .now
  unfold getItem
  refine wpAny_holding ?_
  unfold sequenceKey
  refine wpAny_bind (wpAny_bind (J.type.here ?_))
  dsimp only
  refine wpAny_bind (dq.here ?_)
  refine wpAny_pure ?_
  exact wpAny_bind (special_own X I hm (wpAny_mono hc (fun v s' h => wpAny_pure h) fun _ _ z => z))
theorem len_ownK {Q : Value → Shared → Prop} (X : K.In s.heap) (I : ObjM s.heap a dx C mA) (hm : Meth K C "__len__" f)
    (hcall : wpAny (model P w) A.in1 (call (.ref f) [.ref a]) (fun r s' => ∃ n u, r = .int n u ∧ 0 ≤ n ∧ n < 2 ^ 63 ∧ Q (.int n s'.toks) { s' with toks := s'.toks + 1 }) E s) :
    wpAny (model P w) A (call (.builtin "len") [.ref a]) Q E s := by
  refine Calls.call_function_entry kind_len plain_len entry_len (args_len1 _) ?_
  unfold Builtin.«len»
  refine wpAny_bind (wpAny_pure ?_)
  refine wpAny_bind (m := callSpecial? (.ref a) (Str.ofString "__len__")) (special_own X I hm (wpAny_mono hcall (fun r s' hr => ?_) fun _ _ y => y))
  obtain ⟨n, u, rfl, h0, h1, hq⟩ := hr
  refine wpAny_bind (wpAny_holding (wpAny_pure ?_))
  refine wpAny_bind (wpAny_letGo ?_)
  show wpAny _ _ (if n < 0 then _ else _) _ _ _
  rw [if_neg (by omega)]
  show wpAny _ _ (if n ≥ 2 ^ 63 then _ else _) _ _ _
  rw [if_neg (by omega)]
  exact wpAny_bind (wpAny_mkInt (wpAny_pure ⟨_, rfl, hq⟩))
end
/-- o[i], o an instance of the class at C whose __getitem__ says sp -/
def tIxO (C : Addr) (sp : Sp) (E : St → XK) (tp ty : TE) : TE := fun σ H Q => tp σ H fun x H1 => ty σ H1 fun y H2 => ∃ a dx fs, x = .ref a ∧ H2 a = some (.ins C dx fs) ∧ sp [.ref a, y] H2 Q (E σ)
section
variable {X : Cx} {CX : CXT} {k : Nat} {C : Addr} {ps : List Str} {sp : Sp} {E : St → XK} {i o : Expr} {ty tp : TE} {x : Str} {p pos : Pos}
theorem run_fnS1 {pins : List (Addr × Obj)} {σ : St} {H : Hp} {s : Shared} {Q : VK} {f : Addr} {fd : FuncData} {us : List Value} {vs : List V} (F : FnOk X.prog X.w X.K X.mg X.base CX k f fd ps sp) (hr : Room (k + 1) X.A) (hb : Binds X.K fd ps []) (hx : PassesAt CX X σ (E σ))
    (I : Inv X pins σ H s) (r : Vals vs us) (h : sp vs H Q (E σ)) : wpAny (model X.prog X.w) X.A.in1 (call (.ref f) us) (EP X pins σ Q) X.xe s := by
  have hl : us.length = ps.length := by rw [← r.length]; exact F.len _ _ _ _ h
  have b := hb s us I.kIn (by rw [List.append_nil]; exact hl)
  rw [List.append_nil] at b
  refine wpAny_call (codeAny_mono (F.run X.A.in1 X.stack s H ⟨us, []⟩ us vs Q (E σ) hr.in1 I.env0.in1 b r h) fun r s' hq => ?_)
  cases r with
  | error e => exact hx pins H s e s' I hq
  | ok fl =>
    cases fl with
    | ret u => exact I.after hq
    | next => exact False.elim hq
    | brk => exact False.elim hq
    | cont => exact False.elim hq
end
def rLenO (C : Addr) (sp : Sp) (E : XK) : List V → Hp → VK → Prop := fun xs H Q => ∃ a dx fs, xs = [.ref a] ∧ H a = some (.ins C dx fs) ∧ sp [.ref a] H (fun v H2 => ∃ n : Int, v = .int n ∧ 0 ≤ n ∧ n < 2 ^ 63 ∧ Q (.int n) H2) E
theorem call_lenO {X : Cx} {CX : CXT} {k : Nat} {C : Addr} {ps : List Str} {sp : Sp} {E : XK} (D : DefM X.prog X.w X.K X.mg X.base CX k C "__len__" ps sp) (hr : Room (k + 1) X.A) (hx : ∀ σ, PassesAt CX X σ E) : CallR X (.builtin "len") (rLenO C sp E) := by
  obtain ⟨f, fd, hlk, hm, hb, F⟩ := D.ex
  intro pins s σ H xs us Q I r h
  obtain ⟨a, dx, fs, rfl, ea, q⟩ := h
  obtain ⟨u, rfl, ru⟩ := vals1 r
  cases ru
  obtain ⟨mA, O, _⟩ := ins_get I.hok ea
  refine len_ownK I.kIn O hm (wpAny_mono (run_fnS1 (E := fun _ => E) (us := [.ref a]) (vs := [.ref a]) F hr hb (hx σ) I (.cons rfl .nil) q) (fun v s3 ⟨z, H3, I3, rz, n, e, h0, h1, q3⟩ => ?_) fun _ _ z => z)
  subst e
  obtain ⟨t, rfl⟩ := rz
  exact ⟨n, t, rfl, h0, h1, .int n, H3, I3.tok _, ⟨_, rfl⟩, q3⟩
/-- its object is a def -/
def GetFn (K : PySem.W.Frag) (C : Addr) : Prop := ∀ f, PySem.W.findIn K (.ref C) "__getitem__" = some (some (.ref f)) → PySem.W.fnIn K f = true
/-- the element of a subscription of an own object -/
def OwnSl (i : Expr) : Prop := ∀ x iv, subscripted i true (.ref x) iv = runValue (.builtin "lifetime.subscript" ⟨[.ref x, iv], []⟩)
theorem pe_ixO {X : Cx} {CX : CXT} {k : Nat} {C : Addr} {ps : List Str} {sp : Sp} {E : St → XK} {i o : Expr} {ty tp : TE} {pos : Pos} (D : DefM X.prog X.w X.K X.mg X.base CX k C "__getitem__" ps sp) (gf : GetFn X.K C) (hr : Room (k + 1) X.A) (hx : ∀ σ, PassesAt CX X σ (E σ)) (ho : PE X o tp) (hi : PE X i ty) (hs : OwnSl i) : PE X (.Subscript o i pos) (tIxO C sp E tp ty) := by
  obtain ⟨f, fd, hlk, hm, hb, F⟩ := D.ex
  refine ⟨fun pins s σ H Q I h => ?_⟩
  refine Subscript_ (thn (ho.run pins s σ H _ I h) fun u s1 ⟨x, H1, I1, rx, q1⟩ => thn (hi.run pins s1 σ H1 _ I1 q1) fun iv s2 ⟨y, H2, I2, ry, a, dx, fs, ex, ea, q2⟩ => ?_)
  subst ex
  obtain rfl : u = Value.ref a := rx
  obtain ⟨mA, O, _⟩ := ins_get I2.hok ea
  obtain ⟨od, J, _⟩ := O.look
  have run := run_fnS1 (us := [.ref a, iv]) (vs := [.ref a, y]) F hr hb (hx σ) I2 (.cons rfl (.cons ry .nil)) q2
  have hf := gf f hm.at_
  unfold PySem.W.fnIn at hf
  split at hf
  · rename_i e
    unfold subscriptTail getitemInPython
    refine wpAny_bind (wpAny_bind (wpAny_bind (J.type.here ((PySem.W.looks_findIn I2.kIn hm.at_).here ?_))))
    dsimp only
    refine wpAny_bind (wpAny_load (I2.kIn _ _ e) (wpAny_pure ?_))
    dsimp only
    rw [hs a iv]
    refine wpAny_bind (wpAny_runValue (codeAny_builtin PySem.W.entry_sub ?_))
    unfold Builtin.«lifetime.subscript»
    refine wpAny_bind (special_own I2.kIn O hm (wpAny_mono run (fun v s' z => ?_) fun _ _ z => z))
    refine wpAny_pure ?_
    show wpAny (model X.prog X.w) X.A (letTemporaryGo o (.ref a) v >>= fun _ => pure v) (EP X pins σ Q) X.xe s'
    exact wpAny_bind (wpAny_letTemporaryGo (wpAny_pure z))
  · cases hf
/-- p == q, both of the class at C whose __eq__ says sp -/
def tEqO (C : Addr) (sp : Sp) (E : St → XK) (ta tb : TE) : TE := fun σ H Q => ta σ H fun x H1 => tb σ H1 fun y H2 => ∃ a b dx fs dx' fs', x = .ref a ∧ y = .ref b ∧ H2 a = some (.ins C dx fs) ∧ H2 b = some (.ins C dx' fs') ∧ sp [.ref a, .ref b] H2 (fun v H3 => ∃ c, v = .bl c ∧ Q (.bl c) H3) (E σ)
theorem eq_own {P : Program} {w : World} {A : Around} {E : Value → Shared → Prop} {s : Shared} {K : PySem.W.Frag} {a b C f dx dx' : Addr} {mA mB : Str → Option Value} {Q : Value → Shared → Prop} (X : K.In s.heap) (I : ObjM s.heap a dx C mA) (I' : ObjM s.heap b dx' C mB) (hm : Meth K C "__eq__" f) (hu : A.units < cLine)
    (hc : wpAny (model P w) A (call (.ref f) [.ref a, .ref b]) (fun v s' => ∃ c, v = .bool c ∧ Q (.bool c) s') E s) : wpAny (model P w) A (compareOp .Eq (.ref a) (.ref b)) Q E s := by
  obtain ⟨od, J, _⟩ := I.look
  obtain ⟨od', J', _⟩ := I'.look
  unfold compareOp richCompare
  simp only [oneThing_ref]
  refine wpAny_holding ?_
  refine wpAny_bind (wpAny_cRoomFor hu ?_)
  dsimp only [cmpInfo]
  refine wpAny_bind (J.type.here (wpAny_bind (J'.type.here ?_)))
  rw [show (Value.ref C != Value.ref C) = false from by simp]
  simp only [Bool.false_eq_true, if_false]
  refine wpAny_bind (wpAny_pure ?_)
  simp only [Bool.false_eq_true, if_false]
  unfold tryCompare
  refine wpAny_bind (wpAny_bind (PySem.W.ifBound_K X J hm.at_ hm.fn (wpAny_mono hc (fun v s' hv => ?_) fun _ _ e => e)))
  obtain ⟨c, rfl, hq⟩ := hv
  exact wpAny_pure (wpAny_pure hq)
theorem pc_eqO {X : Cx} {CX : CXT} {k : Nat} {C : Addr} {ps : List Str} {sp : Sp} {E : St → XK} {l r : Expr} {ta tb : TE} (D : DefM X.prog X.w X.K X.mg X.base CX k C "__eq__" ps sp) (hu : X.A.units < cLine) (hr : Room k X.A) (hx : ∀ σ, PassesAt CX X σ (E σ)) (hl : PE X l ta) (hrr : PE X r tb) : PC X .Eq l r (tEqO C sp E ta tb) := by
  obtain ⟨f, fd, hlk, hm, hb, F⟩ := D.ex
  refine ⟨fun pins s σ H Q I h => ?_⟩
  refine thn (hl.run pins s σ H _ I h) fun iv s1 ⟨x, H1, I1, rx, q1⟩ => thn (hrr.run pins s1 σ H1 _ I1 q1) fun u s2 ⟨y, H2, I2, ry, a, b, dx, fs, dx', fs', ex, ey, ea, eb, q2⟩ => ?_
  subst ex ey
  obtain rfl : iv = Value.ref a := rx
  obtain rfl : u = Value.ref b := ry
  obtain ⟨mA, O, _⟩ := ins_get I2.hok ea
  obtain ⟨mB, O', _⟩ := ins_get I2.hok eb
  refine eq_own I2.kIn O O' hm hu (wpAny_mono (run_fnS (us := [.ref a, .ref b]) (vs := [.ref a, .ref b]) F hr hb (hx σ) I2 (.cons rfl (.cons rfl .nil)) q2) (fun v s3 ⟨z, H3, I3, rz, c, e, q3⟩ => ?_) fun _ _ z => z)
  subst e
  cases rz
  exact ⟨c, rfl, .bl c, H3, I3, rfl, q3⟩
/-- a dict of the module with words as keys: what stands at z -/
def KDat (K : PySem.W.Frag) (w : World) (a : Addr) (z : Str) (o : Option Value) : Prop := ∃ es n, K.lookup a = some ⟨.type "dict", none, .dict es n, #[]⟩ ∧ PySem.W.KeysLit w.params es.toList ∧ (a == sysModules) = false ∧ PySem.W.nsIn K a z = some o
def rInKD (K : PySem.W.Frag) (w : World) : R2 := fun x y H Q => ∃ a z o, x = .str z ∧ y = .ref a ∧ KDat K w a z o ∧ Q (.bl o.isSome) H
def rNotInKD (K : PySem.W.Frag) (w : World) : R2 := fun x y H Q => ∃ a z o, x = .str z ∧ y = .ref a ∧ KDat K w a z o ∧ Q (.bl (!o.isSome)) H
theorem op_inKD {X : Cx} : OpR X (compareOp .In) (rInKD X.K X.w) := by
  intro pins s σ H x y v u Q I rx ry h
  obtain ⟨a, z, o, rfl, rfl, ⟨es, n, hl, hk, low, hm⟩, q⟩ := h
  obtain ⟨t, rfl⟩ := (show ∃ t, v = Value.str z t from rx)
  obtain rfl : u = Value.ref a := ry
  have hm' := PySem.W.mapOf_K (prog := X.prog) (w := X.w) I.kIn hl hk
  refine wpAny_in_of (strKind_is X.prog X.w z t) low hm' ?_
  rw [PySem.W.find_K hl hm]
  exact ⟨.bl o.isSome, H, I.tok _, rfl, q⟩
theorem op_notinKD {X : Cx} : OpR X (compareOp .NotIn) (rNotInKD X.K X.w) := by
  intro pins s σ H x y v u Q I rx ry h
  obtain ⟨a, z, o, rfl, rfl, ⟨es, n, hl, hk, low, hm⟩, q⟩ := h
  obtain ⟨t, rfl⟩ := (show ∃ t, v = Value.str z t from rx)
  obtain rfl : u = Value.ref a := ry
  have hm' := PySem.W.mapOf_K (prog := X.prog) (w := X.w) I.kIn hl hk
  refine wpAny_notIn_of (strKind_is X.prog X.w z t) low hm' ?_
  rw [PySem.W.find_K hl hm]
  exact ⟨.bl (!o.isSome), H, I.tok _, rfl, q⟩
end L2

set_option Elab.async false
set_option linter.all false
set_option maxRecDepth 100000
set_option maxHeartbeats 4000000
/-! The ground: special methods of own classes. -/
namespace L2
open PySem PySem.Spec PyProof.Rows PySem.HErr
/-- an instance of the class at C -/
def InsC (fr : Fr) (Θ : List Cel) (p : Vp) (C : Addr) : Prop := ∀ F H v, OkF fr Θ F H → p.p F v → ∃ a dx fs, v = .ref a ∧ H a = some (.ins C dx fs)
section
variable {fr : Fr} {Γ Γ' : Gam} {Θ : List Cel} {F F' H H' : Hp} {K : Vp → List Cel → Prop} {Q : VK} {C : Addr} {sp : Sp} {E : L2.St → XK} {ta tb : TE}
theorem InsP.c {p : Vp} {m : Str} (h : InsP fr Θ p C m) : InsC fr Θ p C := fun F H v ok hv => by
  obtain ⟨a, dx, fs, h1, h2, _⟩ := h F H v ok hv
  exact ⟨a, dx, fs, h1, h2⟩
theorem we_inO (w : We fr Γ Θ ta fun q Θ1 => We fr Γ Θ1 tb fun p Θ2 => InsC fr Θ2 p C ∧ Sps fr Γ Θ2 sp E [p, q] fun r Θ3 => ∃ b, r = iz zB b ∧ K (iz zB b) Θ3) : We fr Γ Θ (tInO C sp E ta tb) K := fun σ F H ok env Q k =>
  w σ F H ok env _ fun q Θ1 w1 y F1 H1 s1 ok1 hy => w1 σ F1 H1 ok1 (env.mono s1) _ fun p Θ2 ⟨ic, w2⟩ x F2 H2 s2 ok2 hx => by
    obtain ⟨a, dx, fs, rfl, h2⟩ := ic F2 H2 x ok2 hx
    exact ⟨a, dx, fs, rfl, h2, w2 σ F2 H2 _ ok2 ((env.mono s1).mono s2) (.cons hx (.cons (q.mono s2 hy) .nil)) _ fun r Θ3 ⟨b, e, kk⟩ v F3 H3 s3 ok3 hv => by
      subst e
      have hv : v = .bl b := hv
      exact ⟨b, hv, k _ Θ3 kk _ F3 H3 ((s1.trans s2).trans s3) ok3 rfl⟩⟩
theorem we_notinO (w : We fr Γ Θ ta fun q Θ1 => We fr Γ Θ1 tb fun p Θ2 => InsC fr Θ2 p C ∧ Sps fr Γ Θ2 sp E [p, q] fun r Θ3 => ∃ b, r = iz zB b ∧ K (iz zB (!b)) Θ3) : We fr Γ Θ (tNotInO C sp E ta tb) K := fun σ F H ok env Q k =>
  w σ F H ok env _ fun q Θ1 w1 y F1 H1 s1 ok1 hy => w1 σ F1 H1 ok1 (env.mono s1) _ fun p Θ2 ⟨ic, w2⟩ x F2 H2 s2 ok2 hx => by
    obtain ⟨a, dx, fs, rfl, h2⟩ := ic F2 H2 x ok2 hx
    exact ⟨a, dx, fs, rfl, h2, w2 σ F2 H2 _ ok2 ((env.mono s1).mono s2) (.cons hx (.cons (q.mono s2 hy) .nil)) _ fun r Θ3 ⟨b, e, kk⟩ v F3 H3 s3 ok3 hv => by
      subst e
      have hv : v = .bl b := hv
      exact ⟨b, hv, k _ Θ3 kk _ F3 H3 ((s1.trans s2).trans s3) ok3 rfl⟩⟩
theorem we_ixO (w : We fr Γ Θ ta fun p Θ1 => We fr Γ Θ1 tb fun q Θ2 => InsC fr Θ2 p C ∧ Sps fr Γ Θ2 sp E [p, q] K) : We fr Γ Θ (tIxO C sp E ta tb) K := fun σ F H ok env Q k =>
  w σ F H ok env _ fun p Θ1 w1 x F1 H1 s1 ok1 hx => w1 σ F1 H1 ok1 (env.mono s1) _ fun q Θ2 ⟨ic, w2⟩ y F2 H2 s2 ok2 hy => by
    have hx2 := p.mono s2 hx
    obtain ⟨a, dx, fs, rfl, h2⟩ := ic F2 H2 x ok2 hx2
    exact ⟨a, dx, fs, rfl, h2, w2 σ F2 H2 _ ok2 ((env.mono s1).mono s2) (.cons hx2 (.cons hy .nil)) _ (k.mono (s1.trans s2))⟩
theorem we_eqO (w : We fr Γ Θ ta fun p Θ1 => We fr Γ Θ1 tb fun q Θ2 => InsC fr Θ2 p C ∧ InsC fr Θ2 q C ∧ Sps fr Γ Θ2 sp E [p, q] fun r Θ3 => ∃ b, r = iz zB b ∧ K (iz zB b) Θ3) : We fr Γ Θ (tEqO C sp E ta tb) K := fun σ F H ok env Q k =>
  w σ F H ok env _ fun p Θ1 w1 x F1 H1 s1 ok1 hx => w1 σ F1 H1 ok1 (env.mono s1) _ fun q Θ2 ⟨ic, ic2, w2⟩ y F2 H2 s2 ok2 hy => by
    have hx2 := p.mono s2 hx
    obtain ⟨a, dx, fs, rfl, h2⟩ := ic F2 H2 x ok2 hx2
    obtain ⟨b, dx', fs', rfl, h3⟩ := ic2 F2 H2 y ok2 hy
    exact ⟨a, b, dx, fs, dx', fs', rfl, rfl, h2, h3, w2 σ F2 H2 _ ok2 ((env.mono s1).mono s2) (.cons hx2 (.cons hy .nil)) _ fun r Θ3 ⟨c, e, kk⟩ v F3 H3 s3 ok3 hv => by
      subst e
      have hv : v = .bl c := hv
      exact ⟨c, hv, k _ Θ3 kk _ F3 H3 ((s1.trans s2).trans s3) ok3 rfl⟩⟩
theorem cb_lenO {E : XK} {p : Vp} (ic : InsC fr Θ p C) (w : Sps fr Γ Θ sp (fun _ => E) [p] fun r Θ3 => ∃ n : Int, r = iz zI n ∧ 0 ≤ n ∧ n < 2 ^ 63 ∧ K (iz zI n) Θ3) (hg : ∃ σ, ∀ F H, OkF fr Θ F H → EnvF Γ σ F) : Cbs fr Θ (rLenO C sp E) [p] K := fun F H vs ok hps Q k => by
  cases hps with
  | cons h1 hp => cases hp with
    | nil =>
      obtain ⟨σ, hσ⟩ := hg
      obtain ⟨a, dx, fs, rfl, h2⟩ := ic F H _ ok h1
      exact ⟨a, dx, fs, rfl, h2, w σ F H _ ok (hσ F H ok) (.cons h1 .nil) _ fun r Θ3 ⟨n, e, n0, n1, kk⟩ v F3 H3 s3 ok3 hv => by
        subst e
        have hv : v = .int n := hv
        exact ⟨n, hv, n0, n1, k _ Θ3 kk _ F3 H3 s3 ok3 rfl⟩⟩
end
section
variable {fr : Fr} {Γ Γ' : Gam} {Θ : List Cel} {F F' H H' : Hp} {K : Vp → List Cel → Prop} {Q : VK}
theorem kpt_truth {X : Cx} {Kf : PySem.W.Frag} {a : Expr} {ta : TE} (ha : PE X a ta) (he : ∀ whole, isTrue a X.env whole = (do let v ← whole; standAt a.pos; holding [v] (truthy v))) (h : X.K = Kf := by rfl) : PT X a (tTru Kf ta) := h ▸ pt_truth ha he
/-- a value's truth -/
def TruP (fr : Fr) (Θ : List Cel) (Kf : PySem.W.Frag) (p : Vp) (b : Bool) : Prop := ∀ F H v, OkF fr Θ F H → p.p F v → TruV Kf v H b
theorem wt_tru {Kf : PySem.W.Frag} {t : TE} {Kb' : Bool → List Cel → Prop} (w : We fr Γ Θ t fun p Θ1 => ∃ b, TruP fr Θ1 Kf p b ∧ Kb' b Θ1) : Wt fr Γ Θ (tTru Kf t) Kb' := fun σ F H ok env Q q =>
  w σ F H ok env _ fun p Θ1 ⟨b, ht, kk⟩ v F1 H1 s1 ok1 hp => ⟨b, ht F1 H1 v ok1 hp, q b Θ1 kk F1 H1 s1 ok1⟩
theorem emp_len {α β : Type} {R : α → β → Prop} {l : List α} {m : List β} (h : Paired R l m) : l.isEmpty = m.isEmpty := by cases h <;> rfl
theorem tru_L {Kf : PySem.W.Frag} {α : Type} {r : Rep α} {xs : List α} : TruP fr Θ Kf (iz (zL r) xs) (!xs.isEmpty) := fun F H v ok ⟨a, vs, h1, h2, h3⟩ => by
  subst h1
  exact .inl ⟨vs, SqL.of (ok.fh _ _ h2), by rw [emp_len h3]⟩
theorem tru_T {Kf : PySem.W.Frag} {α : Type} {r : Rep α} {xs : List α} : TruP fr Θ Kf (iz (zT r) xs) (!xs.isEmpty) := fun F H v ok ⟨a, vs, h1, h2, h3⟩ => by
  subst h1
  exact .inr (.inl ⟨vs, SqT.of (ok.fh _ _ h2), by rw [emp_len h3]⟩)
theorem tru_C {Kf : PySem.W.Frag} {α : Type} {r : Rep α} {xs : List α} {a : Addr} (hc : cL a r xs ∈ Θ) : TruP fr Θ Kf (zAt a) (!xs.isEmpty) := fun F H v ok hv => by
  have hv : v = .ref a := hv
  subst hv
  obtain ⟨_, ⟨o, h2, vs, rfl, h4⟩, _⟩ := ok.ce _ hc
  exact .inl ⟨vs, SqL.of h2, by rw [emp_len h4]⟩
/-! slices of tuples -/
theorem sls_T {Kf : PySem.W.Frag} {α : Type} {r : Rep α} {xs : List α} {lo hi : Option Int} (hn : ¬ (HT.sIx xs.length 0 lo = 0 ∧ HT.sIx xs.length xs.length hi = xs.length)) (k : K (iz (zT r) (cutX xs lo hi)) Θ) : Sls fr Θ (rSlT Kf) (iz (zT r) xs) lo hi K := fun F H v ok hv Q q => by
  obtain ⟨a, vs, rfl, h2, h3⟩ := hv
  exact ⟨a, vs, rfl, SqT.of (ok.fh _ _ h2), by rw [Paired.len h3]; exact hn, fun l nl => q.new k ok nl ⟨l, _, rfl, upd_same, Paired.imp2 (fun _ _ h => r.mono (ok.sameF nl) h) (pvs_cut h3)⟩⟩
/-! a module's dict of words -/
theorem kop_inKD {X : Cx} {Kf : PySem.W.Frag} {w : World} (h : X.K = Kf := by rfl) (hw : X.w = w := by rfl) : OpR X (compareOp .In) (rInKD Kf w) := h ▸ hw ▸ op_inKD
theorem kop_notinKD {X : Cx} {Kf : PySem.W.Frag} {w : World} (h : X.K = Kf := by rfl) (hw : X.w = w := by rfl) : OpR X (compareOp .NotIn) (rNotInKD Kf w) := h ▸ hw ▸ op_notinKD
theorem kix_kdict {X : Cx} {Kf : PySem.W.Frag} {w : World} (h : X.K = Kf := by rfl) (hw : X.w = w := by rfl) : IxR X (rIxD Kf w) := h ▸ hw ▸ ix_kdict
theorem ops_inKD {Kf : PySem.W.Frag} {w : World} {a : Addr} {z : Str} {o : Option Value} (hd : KDat Kf w a z o) (k : K (iz zB o.isSome) Θ) : Ops fr Θ (rInKD Kf w) (iz zS z) (zAt a) K := fun F H v u ok hv hu Q q => ⟨a, z, o, hv.1, hu, hd, q.go k ok rfl⟩
theorem ops_notinKD {Kf : PySem.W.Frag} {w : World} {a : Addr} {z : Str} {o : Option Value} (hd : KDat Kf w a z o) (k : K (iz zB (!o.isSome)) Θ) : Ops fr Θ (rNotInKD Kf w) (iz zS z) (zAt a) K := fun F H v u ok hv hu Q q => ⟨a, z, o, hv.1, hu, hd, q.go k ok rfl⟩
theorem ops_ixKD {Kf : PySem.W.Frag} {w : World} {a f : Addr} {z : Str} (hd : KDat Kf w a z (some (.ref f))) (k : K (zAt f) Θ) : Ops fr Θ (rIxD Kf w) (zAt a) (iz zS z) K := fun F H v u ok hv hu Q q => by
  obtain ⟨es, n, h1, h2, _, h3⟩ := hd
  exact ⟨a, z, .ref f, hv, hu.1, ⟨es, n, .ref f, h1, h2, h3, rfl⟩, q.go k ok rfl⟩
/-- a call of a name that holds one of several defs -/
theorem we_callA {i : Nat} {S : Addr → Option Sp} {t : TA} {f : Addr} {sp : Sp} (hi : Γ[i]? = some (some (zAt f))) (hS : S f = some sp) (w : Wa fr Γ Θ t fun ps Θ1 => Sps fr Γ Θ1 sp (fun _ _ _ _ => False) ps K) : We fr Γ Θ (tCallA i S t) K := fun σ F H ok env Q q => by
  obtain ⟨v, h1, h2⟩ := env.get hi
  have h2 : v = .ref f := h2
  subst h2
  exact ⟨f, sp, h1, hS, w σ F H ok env _ fun ps Θ1 k vs F1 H1 s1 ok1 hps => k σ F1 H1 vs ok1 (env.mono s1) hps Q (q.mono s1)⟩
end
end L2

set_option Elab.async false
set_option linter.all false
set_option maxRecDepth 100000
set_option maxHeartbeats 4000000
/-! What a def computes, by what is wanted (a predicate transformer over plain things); things of bounded size. The walks over these are printed by tool/wg.py. -/
namespace L2
open PySem PySem.Spec PyProof.Rows PySem.HErr
abbrev big : Nat := 100000
theorem big_line {n : Nat} (h : n ≤ big) : n ≤ sizeLine := Nat.le_trans h (by unfold sizeLine; decide)
theorem big_lt {n : Nat} (h : n ≤ big) : n < sizeLine := Nat.lt_of_le_of_lt h (by unfold sizeLine; decide)
/-! ### errors -/
inductive EK where
  | tooMany | badWord | double | badNumber | empty | unknown | inUse | badState | notReady | notSound | badPair | badText | noUndo
  deriving DecidableEq
inductive HE where
  | tooMany (kind : Str) (limit : Int)
  | badWord (w : Str)
  | double (n : Str)
  | badNumber (n : Int)
  | empty (n : Str)
  | unknown (n : Str)
  | inUse (n : Str)
  | badState (ns : List Int)
  | notReady (s p : Str) (i : Int)
  | notSound (d : PyData)
  | badPair (n : Str)
  | badText (n : Int)
  | noUndo
def HE.k : HE → EK
  | .tooMany _ _ => .tooMany
  | .badWord _ => .badWord
  | .double _ => .double
  | .badNumber _ => .badNumber
  | .empty _ => .empty
  | .unknown _ => .unknown
  | .inUse _ => .inUse
  | .badState _ => .badState
  | .notReady _ _ _ => .notReady
  | .notSound _ => .notSound
  | .badPair _ => .badPair
  | .badText _ => .badText
  | .noUndo => .noUndo
/-- what is wanted: of the result, of an error -/
abbrev DM (β : Type) := (β → Prop) → (HE → Prop) → Prop
def noX : HE → Prop := fun _ => False
/-! ### ways -/
def ifD (c : Bool) (A B : Prop) : Prop := (c = true → A) ∧ (c = false → B)
def andD (c : Bool) (f : (Bool → Prop) → Prop) (k : Bool → Prop) : Prop := (c = true → f k) ∧ (c = false → k false)
def orD (c : Bool) (f : (Bool → Prop) → Prop) (k : Bool → Prop) : Prop := (c = true → k true) ∧ (c = false → f k)
def joinD {S : Type} (f : (S → Prop) → Prop) (k : S → Prop) : Prop := f k
def forD {α S : Type} : List α → S → (α → S → (S → Prop) → (S → Prop) → Prop) → (S → Prop) → Prop
  | [], s, _, after => after s
  | x :: xs, s, body, after => body x s (fun s' => forD xs s' body after) after
def whileN {S : Type} : Nat → S → (S → (S → Prop) → (S → Prop) → Prop) → (S → Prop) → Prop
  | 0, _, _, _ => False
  | n + 1, s, step, after => step s (fun s' => whileN n s' step after) after
def whileD {S : Type} (s : S) (step : S → (S → Prop) → (S → Prop) → Prop) (after : S → Prop) : Prop := ∃ n, whileN n s step after
def mapD {α β : Type} : List α → List β → (α → (β → Prop) → Prop) → (List β → Prop) → Prop
  | [], acc, _, k => k acc
  | x :: xs, acc, f, k => f x fun y => mapD xs (acc ++ [y]) f k
def compD {α β : Type} : List α → List β → (α → (Option β → Prop) → Prop) → (List β → Prop) → Prop
  | [], acc, _, k => k acc
  | x :: xs, acc, f, k => f x fun o => compD xs (acc ++ o.toList) f k
def catD {α β : Type} : List α → List β → (α → List β → (List β → Prop) → Prop) → (List β → Prop) → Prop
  | [], acc, _, k => k acc
  | x :: xs, acc, f, k => f x acc fun acc' => catD xs acc' f k
/-- the inner walk of a comprehension with two for: it goes on with what is made so far -/
def innD {α β : Type} : List α → List β → (α → (Option β → Prop) → Prop) → (List β → Prop) → Prop
  | [], acc, _, k => k acc
  | x :: xs, acc, f, k => f x fun o => (acc ++ o.toList).length ≤ big ∧ innD xs (acc ++ o.toList) f k
/-! ### things of bounded size -/
def Vp.Le (p q : Vp) : Prop := ∀ F v, p.p F v → q.p F v
theorem Vp.Le.refl (p : Vp) : p.Le p := fun _ _ h => h
def yN : Rep Unit := ⟨fun _ v _ => v = .non, fun _ h => h⟩
def yS : Rep Str := ⟨fun F v x => zS.p F v x ∧ x.length ≤ big, fun e h => ⟨zS.mono e h.1, h.2⟩⟩
def yL {α : Type} (r : Rep α) : Rep (List α) := ⟨fun F v x => (zL r).p F v x ∧ x.length ≤ big, fun e h => ⟨(zL r).mono e h.1, h.2⟩⟩
def yT {α : Type} (r : Rep α) : Rep (List α) := ⟨fun F v x => (zT r).p F v x ∧ x.length ≤ big, fun e h => ⟨(zT r).mono e h.1, h.2⟩⟩
def yD {α : Type} (r : Rep α) : Rep (List (Str × α)) := ⟨fun F v x => (zD r).p F v x ∧ x.length ≤ big, fun e h => ⟨(zD r).mono e h.1, h.2⟩⟩
/-- None or a thing -/
def yO {α : Type} (r : Rep α) : Rep (Option α) := ⟨fun F v x => match x with | none => v = .non | some y => r.p F v y, fun {F F' v x} e h => by
  cases x with
  | none => exact h
  | some y => exact r.mono e h⟩
/-! data of any form -/
mutual
def xp (F : Hp) : PyData → V → Prop
  | .none, v => v = .non
  | .int i, v => v = .int i
  | .str x, v => v = .str x ∧ Asc x ∧ x.length ≤ big
  | .list ds, v => ∃ a vs, v = .ref a ∧ F a = some (.lst vs) ∧ ds.length ≤ big ∧ xpAll F ds vs
  | .tuple ds, v => ∃ a vs, v = .ref a ∧ F a = some (.tup vs) ∧ ds.length ≤ big ∧ xpAll F ds vs
  | .bool _, _ => False
  | .dict _, _ => False
def xpAll (F : Hp) : List PyData → List V → Prop
  | [], vs => vs = []
  | d :: ds, vs => ∃ v r, vs = v :: r ∧ xp F d v ∧ xpAll F ds r
end
mutual
theorem xp_mono {F F' : Hp} (e : Same F F') : ∀ (d : PyData) (v : V), xp F d v → xp F' d v
  | .none, _, h => by simp only [xp] at h ⊢; exact h
  | .int _, _, h => by simp only [xp] at h ⊢; exact h
  | .str _, _, h => by simp only [xp] at h ⊢; exact h
  | .bool _, _, h => by simp only [xp] at h
  | .dict _, _, h => by simp only [xp] at h
  | .list ds, _, h => by
    simp only [xp] at h ⊢
    obtain ⟨a, vs, h1, h2, h3, h4⟩ := h
    exact ⟨a, vs, h1, e _ _ h2, h3, xpAll_mono e ds vs h4⟩
  | .tuple ds, _, h => by
    simp only [xp] at h ⊢
    obtain ⟨a, vs, h1, h2, h3, h4⟩ := h
    exact ⟨a, vs, h1, e _ _ h2, h3, xpAll_mono e ds vs h4⟩
theorem xpAll_mono {F F' : Hp} (e : Same F F') : ∀ (ds : List PyData) (vs : List V), xpAll F ds vs → xpAll F' ds vs
  | [], _, h => by simp only [xpAll] at h ⊢; exact h
  | d :: ds, _, h => by
    simp only [xpAll] at h ⊢
    obtain ⟨v, r, h1, h2, h3⟩ := h
    exact ⟨v, r, h1, xp_mono e d v h2, xpAll_mono e ds r h3⟩
end
def yX : Rep PyData := ⟨fun F v d => xp F d v ∧ d.depth ≤ 60, fun e h => ⟨xp_mono e _ _ h.1, h.2⟩⟩
/-- lists and tuples of a fixed form -/
def zL3 {α β γ : Type} (r : Rep α) (s : Rep β) (t : Rep γ) : Rep (α × β × γ) := ⟨fun F v x => ∃ a u w z, v = .ref a ∧ F a = some (.lst [u, w, z]) ∧ r.p F u x.1 ∧ s.p F w x.2.1 ∧ t.p F z x.2.2, fun e ⟨a, u, w, z, h1, h2, h3, h4, h5⟩ => ⟨a, u, w, z, h1, e _ _ h2, r.mono e h3, s.mono e h4, t.mono e h5⟩⟩
def z4 {α β γ δ : Type} (r : Rep α) (s : Rep β) (t : Rep γ) (u : Rep δ) : Rep (α × β × γ × δ) := ⟨fun F v x => ∃ a v1 v2 v3 v4, v = .ref a ∧ F a = some (.tup [v1, v2, v3, v4]) ∧ r.p F v1 x.1 ∧ s.p F v2 x.2.1 ∧ t.p F v3 x.2.2.1 ∧ u.p F v4 x.2.2.2, fun e ⟨a, v1, v2, v3, v4, h1, h2, h3, h4, h5, h6⟩ => ⟨a, v1, v2, v3, v4, h1, e _ _ h2, r.mono e h3, s.mono e h4, t.mono e h5, u.mono e h6⟩⟩
def z5 {α β γ δ ε : Type} (r : Rep α) (s : Rep β) (t : Rep γ) (u : Rep δ) (w : Rep ε) : Rep (α × β × γ × δ × ε) := ⟨fun F v x => ∃ a v1 v2 v3 v4 v5, v = .ref a ∧ F a = some (.tup [v1, v2, v3, v4, v5]) ∧ r.p F v1 x.1 ∧ s.p F v2 x.2.1 ∧ t.p F v3 x.2.2.1 ∧ u.p F v4 x.2.2.2.1 ∧ w.p F v5 x.2.2.2.2, fun e ⟨a, v1, v2, v3, v4, v5, h1, h2, h3, h4, h5, h6, h7⟩ => ⟨a, v1, v2, v3, v4, v5, h1, e _ _ h2, r.mono e h3, s.mono e h4, t.mono e h5, u.mono e h6, w.mono e h7⟩⟩
def z1 {α : Type} (r : Rep α) : Rep α := ⟨fun F v x => ∃ a v1, v = .ref a ∧ F a = some (.tup [v1]) ∧ r.p F v1 x, fun e ⟨a, v1, h1, h2, h3⟩ => ⟨a, v1, h1, e _ _ h2, r.mono e h3⟩⟩
/-- a list of one's own, of bounded size -/
def cY {α : Type} (a : Addr) (r : Rep α) (xs : List α) : Cel := ⟨a, true, fun F o => (∃ vs, o = .lst vs ∧ PVs r F vs xs) ∧ xs.length ≤ big, fun e ⟨⟨vs, h1, h2⟩, h3⟩ => ⟨⟨vs, h1, Paired.imp2 (fun _ _ h => r.mono e h) h2⟩, h3⟩, fun h e => by subst e; simp at h⟩
/-- a dict of one's own with keys that are words -/
def cYD {α : Type} (a : Addr) (r : Rep α) (rows : List (Str × α)) : Cel := ⟨a, true, fun F o => (∃ kvs, o = .dK kvs ∧ KVs r F kvs rows) ∧ rows.length ≤ big, fun e ⟨⟨kvs, h1, h2⟩, h3⟩ => ⟨⟨kvs, h1, h2.mono e⟩, h3⟩, fun h e => by subst e; simp at h⟩
theorem le_yS {z : Str} (h : z.length ≤ big) : (iz zS z).Le (iz yS z) := fun _ _ q => ⟨q, h⟩
theorem le_zS {z : Str} : (iz yS z).Le (iz zS z) := fun _ _ q => q.1
theorem le_yL {α : Type} {r : Rep α} {xs : List α} (h : xs.length ≤ big) : (iz (zL r) xs).Le (iz (yL r) xs) := fun _ _ q => ⟨q, h⟩
theorem le_yT {α : Type} {r : Rep α} {xs : List α} (h : xs.length ≤ big) : (iz (zT r) xs).Le (iz (yT r) xs) := fun _ _ q => ⟨q, h⟩
theorem le_zL {α : Type} {r : Rep α} {xs : List α} : (iz (yL r) xs).Le (iz (zL r) xs) := fun _ _ q => q.1
theorem le_zT {α : Type} {r : Rep α} {xs : List α} : (iz (yT r) xs).Le (iz (zT r) xs) := fun _ _ q => q.1
theorem pvs_imp {α : Type} {r s : Rep α} {F : Hp} {vs : List V} {xs : List α} (h : PVs r F vs xs) (f : ∀ v x, x ∈ xs → r.p F v x → s.p F v x) : PVs s F vs xs := by
  induction h with
  | nil => exact .nil
  | cons a _ ih => exact .cons (f _ _ (List.mem_cons_self ..) a) (ih fun v x hx => f v x (List.mem_cons_of_mem _ hx))
theorem le_LL {α : Type} {r s : Rep α} {xs : List α} (h : xs.length ≤ big) (f : ∀ F v x, x ∈ xs → r.p F v x → s.p F v x) : (iz (zL r) xs).Le (iz (yL s) xs) := fun F v ⟨a, vs, h1, h2, h3⟩ => ⟨⟨a, vs, h1, h2, pvs_imp h3 (f F)⟩, h⟩
theorem le_TT {α : Type} {r s : Rep α} {xs : List α} (h : xs.length ≤ big) (f : ∀ F v x, x ∈ xs → r.p F v x → s.p F v x) : (iz (zT r) xs).Le (iz (yT s) xs) := fun F v ⟨a, vs, h1, h2, h3⟩ => ⟨⟨a, vs, h1, h2, pvs_imp h3 (f F)⟩, h⟩
theorem le_LLr {α : Type} {r s : Rep α} {xs : List α} (f : ∀ F v x, x ∈ xs → r.p F v x → s.p F v x) : (iz (yL r) xs).Le (iz (zL s) xs) := fun F v ⟨⟨a, vs, h1, h2, h3⟩, _⟩ => ⟨a, vs, h1, h2, pvs_imp h3 (f F)⟩
theorem le_TTr {α : Type} {r s : Rep α} {xs : List α} (f : ∀ F v x, x ∈ xs → r.p F v x → s.p F v x) : (iz (yT r) xs).Le (iz (zT s) xs) := fun F v ⟨⟨a, vs, h1, h2, h3⟩, _⟩ => ⟨a, vs, h1, h2, pvs_imp h3 (f F)⟩
section
variable {fr : Fr} {Γ Γ' : Gam} {Θ Θ' : List Cel} {F F' H H' : Hp} {K : Vp → List Cel → Prop} {Q : VK}
theorem Kq.conv (h : Kq fr F K Q) : Kq fr F (fun p Θ1 => ∃ q, p.Le q ∧ K q Θ1) Q := fun p Θ' ⟨q, l, k⟩ v F' H' s ok hp => h q Θ' k v F' H' s ok (l _ _ hp)
theorem We.conv {t : TE} (w : We fr Γ Θ t fun p Θ1 => ∃ q, p.Le q ∧ K q Θ1) : We fr Γ Θ t K := fun σ F H ok env Q q => w σ F H ok env Q q.conv
theorem Ops.conv {r : R2} {p q : Vp} (w : Ops fr Θ r p q fun p Θ1 => ∃ q, p.Le q ∧ K q Θ1) : Ops fr Θ r p q K := fun F H v w' ok h1 h2 Q k => w F H v w' ok h1 h2 Q k.conv
theorem Cbs.conv {r : List V → Hp → VK → Prop} {ps : List Vp} (w : Cbs fr Θ r ps fun p Θ1 => ∃ q, p.Le q ∧ K q Θ1) : Cbs fr Θ r ps K := fun F H vs ok h1 Q k => w F H vs ok h1 Q k.conv
theorem Mts.conv {r : V → List V → Hp → VK → Prop} {p : Vp} {ps : List Vp} (w : Mts fr Θ r p ps fun p Θ1 => ∃ q, p.Le q ∧ K q Θ1) : Mts fr Θ r p ps K := fun F H v vs ok h1 h2 Q k => w F H v vs ok h1 h2 Q k.conv
theorem Sls.conv {r : V → Option Int → Option Int → Hp → VK → Prop} {p : Vp} {lo hi : Option Int} (w : Sls fr Θ r p lo hi fun p Θ1 => ∃ q, p.Le q ∧ K q Θ1) : Sls fr Θ r p lo hi K := fun F H v ok h1 Q k => w F H v ok h1 Q k.conv
theorem Ops.le {r : R2} {p q p' q' : Vp} (w : Ops fr Θ r p' q' K) (h1 : p.Le p') (h2 : q.Le q') : Ops fr Θ r p q K := fun F H v w' ok a b Q k => w F H v w' ok (h1 _ _ a) (h2 _ _ b) Q k
theorem Sls.le {r : V → Option Int → Option Int → Hp → VK → Prop} {p p' : Vp} {lo hi : Option Int} (w : Sls fr Θ r p' lo hi K) (h : p.Le p') : Sls fr Θ r p lo hi K := fun F H v ok a Q k => w F H v ok (h _ _ a) Q k
/-- a fact that the value tells -/
theorem Ops.tell {r : R2} {p q : Vp} {A : Prop} (h : ∀ F v, p.p F v → A) (w : A → Ops fr Θ r p q K) : Ops fr Θ r p q K := fun F H v w' ok a b Q k => w (h _ _ a) F H v w' ok a b Q k
theorem Cbs.tell {r : List V → Hp → VK → Prop} {p : Vp} {ps : List Vp} {A : Prop} (h : ∀ F v, p.p F v → A) (w : A → Cbs fr Θ r (p :: ps) K) : Cbs fr Θ r (p :: ps) K := fun F H vs ok a Q k => by
  cases a with
  | cons a b => exact w (h _ _ a) F H _ ok (.cons a b) Q k
theorem Sls.tell {r : V → Option Int → Option Int → Hp → VK → Prop} {p : Vp} {lo hi : Option Int} {A : Prop} (h : ∀ F v, p.p F v → A) (w : A → Sls fr Θ r p lo hi K) : Sls fr Θ r p lo hi K := fun F H v ok a Q k => w (h _ _ a) F H v ok a Q k
theorem te_S {z : Str} : ∀ F v, (iz yS z).p F v → z.length ≤ big := fun _ _ h => h.2
theorem te_L {α : Type} {r : Rep α} {xs : List α} : ∀ F v, (iz (yL r) xs).p F v → xs.length ≤ big := fun _ _ h => h.2
theorem te_T {α : Type} {r : Rep α} {xs : List α} : ∀ F v, (iz (yT r) xs).p F v → xs.length ≤ big := fun _ _ h => h.2
theorem te_D {α : Type} {r : Rep α} {xs : List (Str × α)} : ∀ F v, (iz (yD r) xs).p F v → xs.length ≤ big := fun _ _ h => h.2
/-! constants, texts -/
theorem we_cSy {z : Str} (h : Asc z) (hl : z.length ≤ big) (k : K (iz yS z) Θ) : We fr Γ Θ (tC (.str z)) K := we_c (p := iz yS z) (fun _ => ⟨⟨rfl, h⟩, hl⟩) k
theorem we_cNy (k : K (iz yN ()) Θ) : We fr Γ Θ (tC .non) K := we_c (fun _ => rfl) k
theorem oy_eqS {m n : Str} (k : K (iz zB (decide (m = n))) Θ) : Ops fr Θ rEq (iz yS m) (iz yS n) K := (ops_eqS k).le le_zS le_zS
theorem oy_neS {m n : Str} (k : K (iz zB (!decide (m = n))) Θ) : Ops fr Θ rNe (iz yS m) (iz yS n) K := (ops_neS k).le le_zS le_zS
theorem oy_addS {m n : Str} (hl : m.length + n.length ≤ big) (k : K (iz yS (m ++ n)) Θ) : Ops fr Θ (fun x y H Q => ∃ i j, x = .str i ∧ y = .str j ∧ i.length + j.length ≤ sizeLine ∧ Q (.str (i ++ j)) H) (iz yS m) (iz yS n) K :=
  (Ops.conv (ops_addS (big_line hl) ⟨_, le_yS (by show (m.cps ++ n.cps).size ≤ big; rw [Array.size_append]; exact hl), k⟩)).le le_zS le_zS
theorem ascT {z : Str} {c : Nat} (h : Asc z) (hc : c ∈ z.cps.toList) : Asc ⟨#[c]⟩ := fun d hd => by
  have : d = c := by simpa using hd
  rw [this]
  exact h c hc
theorem oy_ixS {z : Str} {n : Int} {c : Nat} (e : atI z.cps.toList n = some c) (k : K (iz yS ⟨#[c]⟩) Θ) : Ops fr Θ rIxS (iz yS z) (iz zI n) K :=
  Ops.tell te_S fun hl => (Ops.conv (ops_ixS (big_line hl) e ⟨_, le_yS (by show 1 ≤ big; decide), k⟩)).le le_zS (Vp.Le.refl _)
/-! lists, tuples that are read -/
def SeqY {α : Type} (fr : Fr) (Θ : List Cel) (p : Vp) (r : Rep α) (xs : List α) : Prop := SeqP fr Θ p r xs ∧ ∀ F H v, OkF fr Θ F H → p.p F v → xs.length ≤ big
theorem sy_L {α : Type} {r : Rep α} {xs : List α} : SeqY fr Θ (iz (yL r) xs) r xs := ⟨fun F H v ok h => seq_L F H v ok h.1, fun _ _ _ _ h => h.2⟩
theorem sy_T {α : Type} {r : Rep α} {xs : List α} : SeqY fr Θ (iz (yT r) xs) r xs := ⟨fun F H v ok h => seq_T F H v ok h.1, fun _ _ _ _ h => h.2⟩
theorem sy_C {α : Type} {r : Rep α} {xs : List α} {a : Addr} {j : Nat} (hj : Θ[j]? = some (cY a r xs)) : SeqY fr Θ (zAt a) r xs := ⟨fun F H v ok hv => by
  obtain ⟨_, ⟨o, h2, ⟨⟨vs, rfl, h4⟩, h5⟩⟩, _⟩ := ok.ce _ (List.mem_of_getElem? hj)
  exact ⟨a, vs, hv, .inl (.inl h2), h4⟩, fun F H v ok hv => by
  obtain ⟨_, ⟨o, h2, ⟨⟨vs, rfl, h4⟩, h5⟩⟩, _⟩ := ok.ce _ (List.mem_of_getElem? hj)
  exact h5⟩
theorem seq_yS {p : Vp} {xs : List Str} (h : SeqY fr Θ p yS xs) : SeqP fr Θ p zS xs := fun F H v ok hv => by
  obtain ⟨a, vs, h1, h2, h3⟩ := h.1 F H v ok hv
  exact ⟨a, vs, h1, h2, Paired.imp2 (fun _ _ q => q.1) h3⟩
theorem oy_inS {Kf : PySem.W.Frag} {p : Vp} {z : Str} {xs : List Str} (h : SeqY fr Θ p yS xs) (k : K (iz zB (decide (z ∈ xs))) Θ) : Ops fr Θ (rIn Kf false) (iz yS z) p K := (ops_inS (seq_yS h) k).le le_zS (Vp.Le.refl _)
theorem oy_ninS {Kf : PySem.W.Frag} {p : Vp} {z : Str} {xs : List Str} (h : SeqY fr Θ p yS xs) (k : K (iz zB (!decide (z ∈ xs))) Θ) : Ops fr Θ (rIn Kf true) (iz yS z) p K := (ops_ninS (seq_yS h) k).le le_zS (Vp.Le.refl _)
theorem oy_inI {Kf : PySem.W.Frag} {p : Vp} {z : Int} {xs : List Int} (h : SeqY fr Θ p zI xs) (k : K (iz zB (decide (z ∈ xs))) Θ) : Ops fr Θ (rIn Kf false) (iz zI z) p K := ops_inI h.1 k
theorem oy_ninI {Kf : PySem.W.Frag} {p : Vp} {z : Int} {xs : List Int} (h : SeqY fr Θ p zI xs) (k : K (iz zB (!decide (z ∈ xs))) Θ) : Ops fr Θ (rIn Kf true) (iz zI z) p K := ops_ninI h.1 k
theorem oy_ixL {Kf : PySem.W.Frag} {α : Type} {r : Rep α} {xs : List α} {n : Int} {x : α} (e : atI xs n = some x) (k : K (iz r x) Θ) : Ops fr Θ (rIxL Kf) (iz (yL r) xs) (iz zI n) K := (ops_ixL e k).le le_zL (Vp.Le.refl _)
theorem oy_ixT {Kf : PySem.W.Frag} {α : Type} {r : Rep α} {xs : List α} {n : Int} {x : α} (e : atI xs n = some x) (k : K (iz r x) Θ) : Ops fr Θ (rIxT Kf) (iz (yT r) xs) (iz zI n) K := (ops_ixT e k).le le_zT (Vp.Le.refl _)
theorem oy_ixC {Kf : PySem.W.Frag} {α : Type} {r : Rep α} {xs : List α} {n : Int} {x : α} {a : Addr} {j : Nat} (hj : Θ[j]? = some (cY a r xs)) (e : atI xs n = some x) (k : K (iz r x) Θ) : Ops fr Θ (rIxL Kf) (zAt a) (iz zI n) K := fun F H v w ok hv hw Q q => by
  obtain ⟨_, ⟨o, h2, ⟨⟨vs, rfl, h4⟩, h5⟩⟩, _⟩ := ok.ce _ (List.mem_of_getElem? hj)
  have hv : v = .ref a := hv
  have hw : w = .int n := hw
  subst hv hw
  obtain ⟨u, hu, hr⟩ := pvs_at h4 e
  exact ⟨a, vs, n, u, rfl, rfl, SqL.of h2, hu, q.go k ok hr⟩
theorem oy_ixLp0 {Kf : PySem.W.Frag} {α β : Type} {r : Rep α} {s : Rep β} {x : α × β} (k : K (iz r x.1) Θ) : Ops fr Θ (rIxL Kf) (iz (zLp r s) x) (iz zI 0) K := fun F H v w ok ⟨a, u, z, h1, h2, h3, h4⟩ hw Q q => by
  have hw : w = .int 0 := hw
  subst h1 hw
  exact ⟨a, _, 0, u, rfl, rfl, SqL.of (ok.fh _ _ h2), rfl, q.go k ok h3⟩
theorem oy_ixLp1 {Kf : PySem.W.Frag} {α β : Type} {r : Rep α} {s : Rep β} {x : α × β} (k : K (iz s x.2) Θ) : Ops fr Θ (rIxL Kf) (iz (zLp r s) x) (iz zI 1) K := fun F H v w ok ⟨a, u, z, h1, h2, h3, h4⟩ hw Q q => by
  have hw : w = .int 1 := hw
  subst h1 hw
  exact ⟨a, _, 1, z, rfl, rfl, SqL.of (ok.fh _ _ h2), rfl, q.go k ok h4⟩
theorem oy_ixL30 {Kf : PySem.W.Frag} {α β γ : Type} {r : Rep α} {s : Rep β} {t : Rep γ} {x : α × β × γ} (k : K (iz r x.1) Θ) : Ops fr Θ (rIxL Kf) (iz (zL3 r s t) x) (iz zI 0) K := fun F H v w ok ⟨a, u, y, z, h1, h2, h3, h4, h5⟩ hw Q q => by
  have hw : w = .int 0 := hw
  subst h1 hw
  exact ⟨a, _, 0, u, rfl, rfl, SqL.of (ok.fh _ _ h2), rfl, q.go k ok h3⟩
theorem oy_ixL31 {Kf : PySem.W.Frag} {α β γ : Type} {r : Rep α} {s : Rep β} {t : Rep γ} {x : α × β × γ} (k : K (iz s x.2.1) Θ) : Ops fr Θ (rIxL Kf) (iz (zL3 r s t) x) (iz zI 1) K := fun F H v w ok ⟨a, u, y, z, h1, h2, h3, h4, h5⟩ hw Q q => by
  have hw : w = .int 1 := hw
  subst h1 hw
  exact ⟨a, _, 1, y, rfl, rfl, SqL.of (ok.fh _ _ h2), rfl, q.go k ok h4⟩
theorem oy_ixL32 {Kf : PySem.W.Frag} {α β γ : Type} {r : Rep α} {s : Rep β} {t : Rep γ} {x : α × β × γ} (k : K (iz t x.2.2) Θ) : Ops fr Θ (rIxL Kf) (iz (zL3 r s t) x) (iz zI 2) K := fun F H v w ok ⟨a, u, y, z, h1, h2, h3, h4, h5⟩ hw Q q => by
  have hw : w = .int 2 := hw
  subst h1 hw
  exact ⟨a, _, 2, z, rfl, rfl, SqL.of (ok.fh _ _ h2), rfl, q.go k ok h5⟩
theorem oy_ix40 {Kf : PySem.W.Frag} {α β γ δ : Type} {r : Rep α} {s : Rep β} {t : Rep γ} {u : Rep δ} {x : α × β × γ × δ} (k : K (iz r x.1) Θ) : Ops fr Θ (rIxT Kf) (iz (z4 r s t u) x) (iz zI 0) K := fun F H v w ok ⟨a, v1, v2, v3, v4, h1, h2, h3, h4, h5, h6⟩ hw Q q => by
  have hw : w = .int 0 := hw
  subst h1 hw
  exact ⟨a, _, 0, v1, rfl, rfl, SqT.of (ok.fh _ _ h2), rfl, q.go k ok h3⟩
theorem oy_ix41 {Kf : PySem.W.Frag} {α β γ δ : Type} {r : Rep α} {s : Rep β} {t : Rep γ} {u : Rep δ} {x : α × β × γ × δ} (k : K (iz s x.2.1) Θ) : Ops fr Θ (rIxT Kf) (iz (z4 r s t u) x) (iz zI 1) K := fun F H v w ok ⟨a, v1, v2, v3, v4, h1, h2, h3, h4, h5, h6⟩ hw Q q => by
  have hw : w = .int 1 := hw
  subst h1 hw
  exact ⟨a, _, 1, v2, rfl, rfl, SqT.of (ok.fh _ _ h2), rfl, q.go k ok h4⟩
theorem oy_ix42 {Kf : PySem.W.Frag} {α β γ δ : Type} {r : Rep α} {s : Rep β} {t : Rep γ} {u : Rep δ} {x : α × β × γ × δ} (k : K (iz t x.2.2.1) Θ) : Ops fr Θ (rIxT Kf) (iz (z4 r s t u) x) (iz zI 2) K := fun F H v w ok ⟨a, v1, v2, v3, v4, h1, h2, h3, h4, h5, h6⟩ hw Q q => by
  have hw : w = .int 2 := hw
  subst h1 hw
  exact ⟨a, _, 2, v3, rfl, rfl, SqT.of (ok.fh _ _ h2), rfl, q.go k ok h5⟩
theorem oy_ix43 {Kf : PySem.W.Frag} {α β γ δ : Type} {r : Rep α} {s : Rep β} {t : Rep γ} {u : Rep δ} {x : α × β × γ × δ} (k : K (iz u x.2.2.2) Θ) : Ops fr Θ (rIxT Kf) (iz (z4 r s t u) x) (iz zI 3) K := fun F H v w ok ⟨a, v1, v2, v3, v4, h1, h2, h3, h4, h5, h6⟩ hw Q q => by
  have hw : w = .int 3 := hw
  subst h1 hw
  exact ⟨a, _, 3, v4, rfl, rfl, SqT.of (ok.fh _ _ h2), rfl, q.go k ok h6⟩
theorem cy_len {Kf : PySem.W.Frag} {α : Type} {r : Rep α} {xs : List α} {p : Vp} (h : SeqY fr Θ p r xs) (k : xs.length ≤ big → K (iz zI xs.length) Θ) : Cbs fr Θ (rLenQ Kf) [p] K := fun F H vs ok hps Q q => by
  have hl : xs.length ≤ big := by
    cases hps with
    | cons a b => exact h.2 F H _ ok a
  exact cb_len h.1 (k hl) F H vs ok hps Q q
theorem cy_lenS {z : Str} (k : z.length ≤ big → K (iz zI z.length) Θ) : Cbs fr Θ (fun xs H Q => ∃ z, xs = [.str z] ∧ z.length ≤ sizeLine ∧ Q (.int z.length) H) [iz yS z] K := Cbs.tell te_S fun hl F H vs ok hps Q q => cb_lenS (big_line hl) (k hl) F H vs ok (by
  cases hps with
  | cons a b => cases b with
    | nil => exact .cons a.1 .nil) Q q
theorem cy_list {Kf : PySem.W.Frag} {α : Type} {r : Rep α} {xs : List α} {p : Vp} (h : SeqY fr Θ p r xs) (k : K (iz (yL r) xs) Θ) : Cbs fr Θ (rListQ Kf) [p] K := fun F H vs ok hps Q q => by
  have hl : xs.length ≤ big := by
    cases hps with
    | cons a b => exact h.2 F H _ ok a
  exact (Cbs.conv (cb_list h.1 ⟨_, le_yL hl, k⟩)) F H vs ok hps Q q
theorem cy_listO {Kf : PySem.W.Frag} {α : Type} {r : Rep α} {xs : List α} {p : Vp} (h : SeqY fr Θ p r xs) (k : ∀ a, K (zAt a) (cY a r xs :: Θ)) : Cbs fr Θ (rListQ Kf) [p] K := fun F H vs ok hps Q q => by
  cases hps with
  | cons a b => cases b with
    | nil =>
      have hl := h.2 F H _ ok a
      obtain ⟨p, us, h1, h2, h3⟩ := h.1 F H _ ok a
      refine ⟨p, us, by rw [h1], sq_or h2, fun l nl => q _ _ (k l) _ F _ (Same.refl F) (ok.mkOwn (c := cY l r xs) nl rfl ⟨⟨_, rfl, h3⟩, hl⟩) rfl⟩
theorem cy_tupleL {Kf : PySem.W.Frag} {α : Type} {r : Rep α} {xs : List α} (k : K (iz (yT r) xs) Θ) : Cbs fr Θ (rTupQ Kf) [iz (yL r) xs] K := Cbs.tell te_L fun hl => Cbs.conv (cb_tuple (r := r) (xs := xs) (fun F H v ok ⟨⟨a, vs, h1, h2, h3⟩, _⟩ => ⟨a, vs, h1, .inl (ok.fh _ _ h2), h3⟩) ⟨_, le_yT hl, k⟩)
theorem cy_tupleT {Kf : PySem.W.Frag} {α : Type} {r : Rep α} {xs : List α} (k : K (iz (yT r) xs) Θ) : Cbs fr Θ (rTupQ Kf) [iz (yT r) xs] K := Cbs.tell te_T fun hl => Cbs.conv (cb_tuple (r := r) (xs := xs) (fun F H v ok ⟨⟨a, vs, h1, h2, h3⟩, _⟩ => ⟨a, vs, h1, .inr h2, h3⟩) ⟨_, le_yT hl, k⟩)
theorem cy_tupleC {Kf : PySem.W.Frag} {α : Type} {r : Rep α} {xs : List α} {a : Addr} {j : Nat} (hj : Θ[j]? = some (cY a r xs)) (k : K (iz (yT r) xs) Θ) : Cbs fr Θ (rTupQ Kf) [zAt a] K := fun F H vs ok hps Q q => by
  obtain ⟨_, ⟨o, h2, ⟨⟨us, rfl, h4⟩, h5⟩⟩, _⟩ := ok.ce _ (List.mem_of_getElem? hj)
  have h2 : H a = some (.lst us) := h2
  refine (Cbs.conv (cb_tuple (r := r) (xs := xs) (fun F' H' v ok' hv => ?_) ⟨_, le_yT h5, k⟩)) F H vs ok hps Q q
  obtain ⟨_, ⟨o', g2, ⟨⟨us', rfl, g4⟩, g5⟩⟩, _⟩ := ok'.ce _ (List.mem_of_getElem? hj)
  exact ⟨a, us', hv, .inl g2, g4⟩
theorem cy_any {Kf : PySem.W.Frag} {xs : List Bool} (k : K (iz zB (xs.any id)) Θ) : Cbs fr Θ (rAny Kf) [iz (yL zB) xs] K := fun F H vs ok hps Q q => cb_any k F H vs ok (by
  cases hps with
  | cons a b => cases b with
    | nil => exact .cons a.1 .nil) Q q
theorem cy_all {Kf : PySem.W.Frag} {xs : List Bool} (k : K (iz zB (xs.all id)) Θ) : Cbs fr Θ (rAll Kf) [iz (yL zB) xs] K := fun F H vs ok hps Q q => cb_all k F H vs ok (by
  cases hps with
  | cons a b => cases b with
    | nil => exact .cons a.1 .nil) Q q
theorem cy_sum {Kf : PySem.W.Frag} {xs : List Int} (k : K (iz zI xs.sum) Θ) : Cbs fr Θ (rSum Kf) [iz (yL zI) xs] K := fun F H vs ok hps Q q => cb_sum k F H vs ok (by
  cases hps with
  | cons a b => cases b with
    | nil => exact .cons a.1 .nil) Q q
theorem cy_intB {b : Bool} (k : K (iz zI (if b then 1 else 0)) Θ) : Cbs fr Θ (fun xs H Q => (∃ i, xs = [.int i] ∧ Q (.int i) H) ∨ ∃ k, xs = [.bl k] ∧ Q (.int (if k then 1 else 0)) H) [iz zB b] K := fun F H vs ok hps Q q => by
  cases hps with
  | cons h1 hp => cases hp with
    | nil =>
      have h1 : _ = V.bl b := h1
      subst h1
      exact .inr ⟨b, rfl, q.go k ok rfl⟩
theorem cutX_len {α : Type} {xs : List α} {lo hi : Option Int} {n : Nat} (h : xs.length ≤ n) : (cutX xs lo hi).length ≤ n := by
  unfold cutX
  have h1 := List.length_take_le (HT.sIx xs.length xs.length hi - HT.sIx xs.length 0 lo) (xs.drop (HT.sIx xs.length 0 lo))
  rw [List.length_take, List.length_drop]
  omega
theorem sy_slL {Kf : PySem.W.Frag} {α : Type} {r : Rep α} {xs : List α} {lo hi : Option Int} (k : K (iz (yL r) (cutX xs lo hi)) Θ) : Sls fr Θ (rSlL Kf) (iz (yL r) xs) lo hi K := Sls.tell te_L fun hl => (Sls.conv (sls_L ⟨_, le_yL (cutX_len hl), k⟩)).le le_zL
theorem sy_slT {Kf : PySem.W.Frag} {α : Type} {r : Rep α} {xs : List α} {lo hi : Option Int} (hn : ¬ (HT.sIx xs.length 0 lo = 0 ∧ HT.sIx xs.length xs.length hi = xs.length)) (k : K (iz (yT r) (cutX xs lo hi)) Θ) : Sls fr Θ (rSlT Kf) (iz (yT r) xs) lo hi K := Sls.tell te_T fun hl => (Sls.conv (sls_T hn ⟨_, le_yT (cutX_len hl), k⟩)).le le_zT
theorem oy_cat {α : Type} {r : Rep α} {xs ys : List α} (hl : xs.length + ys.length ≤ big) (k : K (iz (yL r) (xs ++ ys)) Θ) : Ops fr Θ rCat (iz (yL r) xs) (iz (yL r) ys) K := (Ops.conv (ops_cat (big_line hl) ⟨_, le_yL (by rw [List.length_append]; exact hl), k⟩)).le le_zL le_zL
theorem oy_rep1 {α : Type} {r : Rep α} {x : α} {n : Int} (h0 : -1000000 ≤ n) (h1 : n ≤ big) (k : K (iz (yL r) (List.replicate n.toNat x)) Θ) : Ops fr Θ rRep (iz (yL r) [x]) (iz zI n) K := by
  refine (Ops.conv (ops_rep (by omega) (by have : (big : Int) = 100000 := rfl; omega) (big_line (by have : big = 100000 := rfl; show 1 * n.toNat ≤ big; omega)) ⟨_, ?_, k⟩)).le le_zL (Vp.Le.refl _)
  rw [flat_one]
  refine le_yL ?_
  rw [List.length_replicate]
  have : big = 100000 := rfl
  omega
/-! displays -/
theorem we_lstY {α : Type} {r : Rep α} {t : TA} (w : Wa fr Γ Θ t fun ps Θ1 => ∃ xs : List α, ps = xs.map (iz r) ∧ xs.length ≤ 1000 ∧ K (iz (yL r) xs) Θ1) : We fr Γ Θ (tLst t) K := We.conv (we_lst (r := r) fun σ F H ok env Q q => w σ F H ok env Q fun ps Θ1 ⟨xs, e, hl, k⟩ => q ps Θ1 ⟨xs, e, by rw [e, List.length_map]; exact hl, _, le_yL (Nat.le_trans hl (by decide)), k⟩)
theorem we_ownY {α : Type} (r : Rep α) {t : TA} (w : Wa fr Γ Θ t fun ps Θ1 => ∃ xs : List α, ps = xs.map (iz r) ∧ xs.length ≤ 1000 ∧ ∀ a, K (zAt a) (cY a r xs :: Θ1)) : We fr Γ Θ (tLst t) K := fun σ F H ok env Q q =>
  w σ F H ok env _ fun ps Θ1 ⟨xs, e, hl, k⟩ vs F1 H1 s1 ok1 hps => by
    subst e
    have h4 := pvs_map hps
    exact ⟨Nat.le_of_lt (small1000 (by rw [Paired.len h4]; exact hl)), fun p np => q _ _ (k p) _ F1 _ s1 (ok1.mkOwn (c := cY p r xs) np rfl ⟨⟨_, rfl, h4⟩, Nat.le_trans hl (by decide)⟩) rfl⟩
theorem we_nilY {α : Type} (r : Rep α) (k : K (iz (yL r) []) Θ) : We fr Γ Θ (tLst tNil) K := we_lstY (wa_nil ⟨[], rfl, Nat.zero_le _, k⟩)
theorem we_nilO {α : Type} (r : Rep α) (k : ∀ a, K (zAt a) (cY a r [] :: Θ)) : We fr Γ Θ (tLst tNil) K := we_ownY r (wa_nil ⟨[], rfl, Nat.zero_le _, k⟩)
theorem we_tupT {α : Type} {r : Rep α} {t : TA} (w : Wa fr Γ Θ t fun ps Θ1 => ∃ xs : List α, ps = xs.map (iz r) ∧ xs.length ≤ 1000 ∧ K (iz (yT r) xs) Θ1) : We fr Γ Θ (tTup t) K := We.conv (we_tup fun σ F H ok env Q q => w σ F H ok env Q fun ps Θ1 ⟨xs, e, hl, k⟩ => q ps Θ1 (by
  subst e
  exact ⟨by rw [List.length_map]; exact hl, _, trT xs, _, le_yT (Nat.le_trans hl (by decide)), k⟩))
theorem tr4 {α β γ δ : Type} {r : Rep α} {s : Rep β} {t : Rep γ} {u : Rep δ} {x : α} {y : β} {z : γ} {w : δ} : TupR [iz r x, iz s y, iz t z, iz u w] (iz (z4 r s t u) (x, y, z, w)) := fun F a vs h hp => by
  cases hp with
  | cons h1 hp => cases hp with
    | cons h2 hp => cases hp with
      | cons h3 hp => cases hp with
        | cons h4 hp => cases hp with
          | nil => exact ⟨a, _, _, _, _, rfl, h, h1, h2, h3, h4⟩
theorem tr5 {α β γ δ ε : Type} {r : Rep α} {s : Rep β} {t : Rep γ} {u : Rep δ} {o : Rep ε} {x : α} {y : β} {z : γ} {w : δ} {v : ε} : TupR [iz r x, iz s y, iz t z, iz u w, iz o v] (iz (z5 r s t u o) (x, y, z, w, v)) := fun F a vs h hp => by
  cases hp with
  | cons h1 hp => cases hp with
    | cons h2 hp => cases hp with
      | cons h3 hp => cases hp with
        | cons h4 hp => cases hp with
          | cons h5 hp => cases hp with
            | nil => exact ⟨a, _, _, _, _, _, rfl, h, h1, h2, h3, h4, h5⟩
theorem tr1 {α : Type} {r : Rep α} {x : α} : TupR [iz r x] (iz (z1 r) x) := fun F a vs h hp => by
  cases hp with
  | cons h1 hp => cases hp with
    | nil => exact ⟨a, _, rfl, h, h1⟩
theorem we_tupX {t : TA} {q : Vp} (w : Wa fr Γ Θ t fun ps Θ1 => ps.length ≤ 1000 ∧ TupR ps q ∧ K q Θ1) : We fr Γ Θ (tTup t) K := we_tup fun σ F H ok env Q k => w σ F H ok env Q fun ps Θ1 ⟨h1, h2, h3⟩ => k ps Θ1 ⟨h1, q, h2, h3⟩
theorem we_lst3 {α β γ : Type} {r : Rep α} {s : Rep β} {o : Rep γ} {t : TA} (w : Wa fr Γ Θ t fun ps Θ1 => ∃ x y z, ps = [iz r x, iz s y, iz o z] ∧ K (iz (zL3 r s o) (x, y, z)) Θ1) : We fr Γ Θ (tLst t) K := fun σ F H ok env Q q =>
  w σ F H ok env _ fun ps Θ1 ⟨x, y, z, e, k⟩ vs F1 H1 s1 ok1 hps => by
    subst e
    cases hps with
    | cons h1 hp => cases hp with
      | cons h2 hp => cases hp with
        | cons h3 hp => cases hp with
          | nil =>
            refine ⟨by show 3 ≤ sizeLine; unfold sizeLine; decide, fun p np => ?_⟩
            exact (q.mono s1).new k ok1 np ⟨p, _, _, _, rfl, upd_same, r.mono (ok1.sameF np) h1, s.mono (ok1.sameF np) h2, o.mono (ok1.sameF np) h3⟩
end
end L2

set_option Elab.async false
set_option linter.all false
set_option maxRecDepth 100000
set_option maxHeartbeats 4000000
/-! Loops, comprehensions, statements, promises over plain things. -/
namespace L2
open PySem PySem.Spec PyProof.Rows PySem.HErr
theorem mapD_comp {α β : Type} {f : α → (β → Prop) → Prop} {k : List β → Prop} : ∀ (xs : List α) (acc : List β), mapD xs acc f k = compD xs acc (fun x k => f x fun y => k (some y)) k
  | [], _ => rfl
  | x :: xs, acc => by
    show (f x fun y => mapD xs (acc ++ [y]) f k) = f x fun y => compD xs (acc ++ [y]) _ k
    congr 1
    funext y
    exact mapD_comp xs _
theorem compD_pure {α β : Type} {pr : α → Bool} {f : α → β} {k : List β → Prop} : ∀ (xs : List α) (acc : List β), compD xs acc (fun x k => ifD (pr x) (k (some (f x))) (k none)) k = k (acc ++ (xs.filter pr).map f)
  | [], acc => by simp [compD]
  | x :: xs, acc => by
    show ifD (pr x) (compD xs (acc ++ [f x]) _ k) (compD xs (acc ++ []) _ k) = _
    rw [compD_pure xs, compD_pure xs, List.filter_cons]
    unfold ifD
    cases pr x <;> simp
theorem mapD_pure {α β : Type} {f : α → β} {k : List β → Prop} : ∀ (xs : List α) (acc : List β), mapD xs acc (fun x k => k (f x)) k = k (acc ++ xs.map f)
  | [], acc => by simp [mapD]
  | x :: xs, acc => by
    show mapD xs (acc ++ [f x]) _ k = _
    rw [mapD_pure xs]
    simp
section
variable {fr : Fr} {Γ Γ' : Gam} {Θ Θ' : List Cel} {F F' H H' : Hp} {K : Vp → List Cel → Prop} {Q : VK}
/-! walked things -/
theorem wi_yL {Kf : PySem.W.Frag} {tl : TE} {K : List Vp → List Cel → Prop} (w : We fr Γ Θ tl fun p Θ1 => ∃ (α : Type) (r : Rep α) (xs : List α), p = iz (yL r) xs ∧ (xs.length ≤ big → K (xs.map (iz r)) Θ1)) : Wi fr Γ Θ (iList Kf tl) K := fun σ F H ok env R q =>
  wi_list (fr := fr) (Γ := Γ) (Θ := Θ) (Kf := Kf) (tl := tl) (K := K) (fun σ F H ok env Q q => w σ F H ok env Q fun p Θ1 ⟨α, r, xs, e, k⟩ v F1 H1 s1 ok1 hp => by
    subst e
    exact q (iz (zL r) xs) Θ1 ⟨α, r, xs, rfl, k hp.2⟩ v F1 H1 s1 ok1 hp.1) σ F H ok env R q
theorem wi_yT {Kf : PySem.W.Frag} {tl : TE} {K : List Vp → List Cel → Prop} (w : We fr Γ Θ tl fun p Θ1 => ∃ (α : Type) (r : Rep α) (xs : List α), p = iz (yT r) xs ∧ (xs.length ≤ big → K (xs.map (iz r)) Θ1)) : Wi fr Γ Θ (iTup Kf tl) K := fun σ F H ok env R q =>
  wi_tup (fr := fr) (Γ := Γ) (Θ := Θ) (Kf := Kf) (tl := tl) (K := K) (fun σ F H ok env Q q => w σ F H ok env Q fun p Θ1 ⟨α, r, xs, e, k⟩ v F1 H1 s1 ok1 hp => by
    subst e
    exact q (iz (zT r) xs) Θ1 ⟨α, r, xs, rfl, k hp.2⟩ v F1 H1 s1 ok1 hp.1) σ F H ok env R q
/-! loops -/
theorem kn_forW {wi : TI} {g : TG} {tb : TS} {D : Ends} {α S : Type} {r : Rep α} (G : S → Gam) (T : S → List Cel) (s0 : S)
    (w : Wi fr Γ Θ wi fun its Θ1 => ∃ (xs : List α) (body : α → S → (S → Prop) → (S → Prop) → Prop) (after : S → Prop) (vs : List Nat) (Γ2 : α → S → Gam), its = xs.map (iz r) ∧ Θ1 = T s0 ∧ GLe Γ (G s0) ∧ (∀ x s, TgR g vs (iz r x) (G s) (Γ2 x s)) ∧ forD xs s0 body after ∧
      (∀ fr', FrLe fr fr' → ∀ x s nx M, (∀ s' Γ' Θ', nx s' → GLe Γ' (G s') → Θ' = T s' → Kn fr' Γ' Θ' M) → (∀ s' Γ' Θ', after s' → GLe Γ' (G s') → Θ' = T s' → Kn fr' Γ' Θ' D.nx) → body x s nx after → Kn fr' (Γ2 x s) (T s) (tb { D with nx := M, ct := M, bk := D.nx })) ∧
      (∀ s, after s → Kn fr (G s) (T s) D.nx)) : Kn fr Γ Θ (tFor wi g tb D) :=
  kn_for fun σ F H ok env R q => w σ F H ok env R fun its Θ1 ⟨xs, body, after, vs, Γ2, e1, e2, l0, tg, hf, hs, hd⟩ => q its Θ1 (by
    subst e1 e2
    refine ⟨fun i Γ1 Θ2 => ∃ s, Γ1 = G s ∧ Θ2 = T s ∧ forD (xs.drop i) s body after, ⟨G s0, l0, s0, rfl, rfl, hf⟩, fun fr' le i p Γ1 Θ2 hi ⟨s, eg, et, h⟩ => ?_, fun Γ1 Θ2 ⟨s, eg, et, h⟩ => ?_⟩
    · subst eg et
      obtain ⟨x, hx, rfl⟩ := get_izs hi
      rw [drop_at hx] at h
      refine ⟨vs, _, tg x s, hs fr' le x s _ _ (fun s' Γ' Θ' hn gl e => ?_) (fun s' Γ' Θ' hn gl e => ?_) h⟩
      · subst e
        exact kn_mid ⟨G s', gl, s', rfl, rfl, hn⟩
      · subst e
        exact ((hd s' hn).fine le).le gl
    · subst eg et
      rw [List.length_map, List.drop_length] at h
      exact hd s h)
theorem kn_whileW {c : TT} {tb : TS} {D : Ends} {S : Type} (G : S → Gam) (T : S → List Cel) (s0 : S) {step : S → (S → Prop) → (S → Prop) → Prop} {after : S → Prop} (h : whileD s0 step after) (l0 : GLe Γ (G s0)) (e0 : Θ = T s0)
    (hs : ∀ s nx M, (∀ s' Γ' Θ', nx s' → GLe Γ' (G s') → Θ' = T s' → Kn fr Γ' Θ' M) → (∀ s' Γ' Θ', after s' → GLe Γ' (G s') → Θ' = T s' → Kn fr Γ' Θ' D.nx) → step s nx after →
      Wt fr (G s) (T s) c fun b Θ1 => (b = true → Kn fr (G s) Θ1 (tb { D with nx := M, ct := M, bk := D.nx })) ∧ (b = false → Kn fr (G s) Θ1 D.nx))
    (hd : ∀ s, after s → Kn fr (G s) (T s) D.nx) : Kn fr Γ Θ (tWhile c tb D) := fun σ F H ok env => by
  subst e0
  obtain ⟨n0, h0⟩ := h
  refine ⟨fun m σ' H' => ∃ s F', whileN m s step after ∧ OkF fr (T s) F' H' ∧ EnvF (G s) σ' F', ⟨n0, s0, F, h0, ok, env.le l0⟩, ?_⟩
  rintro m σ1 H1 ⟨s, F1, hw, ok1, env1⟩
  cases m with
  | zero => exact hw.elim
  | succ m =>
    refine hs s (fun s' => whileN m s' step after) (Mid fr fun Γ Θ => ∃ s, Γ = G s ∧ Θ = T s ∧ whileN m s step after) (fun s' Γ' Θ' hn gl e => ?_) (fun s' Γ' Θ' hn gl e => ?_) hw σ1 F1 H1 ok1 env1 _ fun b Θ1 ⟨k1, k2⟩ F2 H2 s2 ok2 => ?_
    · subst e
      exact kn_mid ⟨G s', gl, s', rfl, rfl, hn⟩
    · subst e
      exact (hd s' hn).le gl
    · cases b with
      | true =>
        rw [if_pos rfl]
        refine ⟨_, ?_, k1 rfl σ1 F2 H2 ok2 (env1.mono s2)⟩
        rintro σ3 H3 ⟨Γ3, Θ3, F3, ⟨s3, rfl, rfl, hn⟩, ok3, env3⟩
        exact ⟨m, Nat.lt_succ_self m, s3, F3, hn, ok3, env3⟩
      | false =>
        rw [if_neg Bool.false_ne_true]
        exact k2 rfl σ1 F2 H2 ok2 (env1.mono s2)
theorem kn_cutW {t u : TS} {D : Ends} {S : Type} (G : S → Gam) (T : S → List Cel) {f : (S → Prop) → Prop} {k : S → Prop} (h : joinD f k)
    (hb : ∀ M, (∀ s' Γ' Θ', k s' → GLe Γ' (G s') → Θ' = T s' → Kn fr Γ' Θ' M) → f k → Kn fr Γ Θ (t { D with nx := M })) (hr : ∀ s, k s → Kn fr (G s) (T s) (u D)) : Kn fr Γ Θ (C8.tCut t u D) :=
  kn_cut (fun Γ Θ => ∃ s, Γ = G s ∧ Θ = T s ∧ k s) (hb _ (fun s' Γ' Θ' hn gl e => by
    subst e
    exact kn_mid ⟨G s', gl, s', rfl, rfl, hn⟩) h) fun Γ Θ ⟨s, e1, e2, hk⟩ => by
    subst e1 e2
    exact hr s hk
/-! and, or whose second part needs more -/
theorem wt_andC {K : Bool → List Cel → Prop} {t u : TT} (w : Wt fr Γ Θ t fun b Θ1 => (b = true → Wt fr Γ Θ1 u K) ∧ (b = false → K false Θ1)) : Wt fr Γ Θ (tAnd t u) K := fun σ F H ok env Q q =>
  w σ F H ok env _ fun b Θ1 ⟨k1, k2⟩ F1 H1 s1 ok1 => by
    cases b with
    | true => rw [if_pos rfl]; exact k1 rfl σ F1 H1 ok1 (env.mono s1) Q fun c Θ2 kk F2 H2 s2 => q c Θ2 kk F2 H2 (s1.trans s2)
    | false => rw [if_neg Bool.false_ne_true]; exact q false Θ1 (k2 rfl) F1 H1 s1 ok1
theorem wt_orC {K : Bool → List Cel → Prop} {t u : TT} (w : Wt fr Γ Θ t fun b Θ1 => (b = false → Wt fr Γ Θ1 u K) ∧ (b = true → K true Θ1)) : Wt fr Γ Θ (tOr t u) K := fun σ F H ok env Q q =>
  w σ F H ok env _ fun b Θ1 ⟨k2, k1⟩ F1 H1 s1 ok1 => by
    cases b with
    | true => rw [if_pos rfl]; exact q true Θ1 (k1 rfl) F1 H1 s1 ok1
    | false => rw [if_neg Bool.false_ne_true]; exact k2 rfl σ F1 H1 ok1 (env.mono s1) Q fun c Θ2 kk F2 H2 s2 => q c Θ2 kk F2 H2 (s1.trans s2)
theorem we_andC {t u : TE} (w : We fr Γ Θ t fun p Θ1 => ∃ b, p = iz zB b ∧ (b = true → We fr Γ Θ1 u K) ∧ (b = false → K (iz zB false) Θ1)) : We fr Γ Θ (tAndV t u) K := fun σ F H ok env Q q =>
  w σ F H ok env _ fun p Θ1 ⟨b, e, k1, k2⟩ v F1 H1 s1 ok1 hp => by
    subst e
    refine ⟨b, hp, ?_⟩
    cases b with
    | true => rw [if_pos rfl]; exact k1 rfl σ F1 H1 ok1 (env.mono s1) Q (q.mono s1)
    | false => rw [if_neg Bool.false_ne_true]; exact q _ Θ1 (k2 rfl) _ F1 H1 s1 ok1 rfl
theorem we_orC {t u : TE} (w : We fr Γ Θ t fun p Θ1 => ∃ b, p = iz zB b ∧ (b = false → We fr Γ Θ1 u K) ∧ (b = true → K (iz zB true) Θ1)) : We fr Γ Θ (tOrV t u) K := fun σ F H ok env Q q =>
  w σ F H ok env _ fun p Θ1 ⟨b, e, k2, k1⟩ v F1 H1 s1 ok1 hp => by
    subst e
    refine ⟨b, hp, ?_⟩
    cases b with
    | true => rw [if_pos rfl]; exact q _ Θ1 (k1 rfl) _ F1 H1 s1 ok1 rfl
    | false => rw [if_neg Bool.false_ne_true]; exact k2 rfl σ F1 H1 ok1 (env.mono s1) Q (q.mono s1)
theorem andK {b : Bool} {f : (Bool → Prop) → Prop} {k : Bool → Prop} {u : TT} {K : Bool → List Cel → Prop} (h : andD b f k) (x : f k → Wt fr Γ Θ u fun c Θ' => Θ' = Θ ∧ k c) (kk : ∀ c, k c → K c Θ) : (b = true → Wt fr Γ Θ u K) ∧ (b = false → K false Θ) :=
  ⟨fun e σ F H ok env Q q => x (h.1 e) σ F H ok env Q fun c Θ' ⟨e1, hc⟩ => q c Θ' (by rw [e1]; exact kk c hc), fun e => kk false (h.2 e)⟩
theorem orK {b : Bool} {f : (Bool → Prop) → Prop} {k : Bool → Prop} {u : TT} {K : Bool → List Cel → Prop} (h : orD b f k) (x : f k → Wt fr Γ Θ u fun c Θ' => Θ' = Θ ∧ k c) (kk : ∀ c, k c → K c Θ) : (b = false → Wt fr Γ Θ u K) ∧ (b = true → K true Θ) :=
  ⟨fun e σ F H ok env Q q => x (h.2 e) σ F H ok env Q fun c Θ' ⟨e1, hc⟩ => q c Θ' (by rw [e1]; exact kk c hc), fun e => kk true (h.1 e)⟩
theorem andKv {b : Bool} {f : (Bool → Prop) → Prop} {k : Bool → Prop} {u : TE} (h : andD b f k) (x : f k → We fr Γ Θ u fun p Θ' => Θ' = Θ ∧ ∃ c, p = iz zB c ∧ k c) (kk : ∀ c, k c → K (iz zB c) Θ) : ∃ b', iz zB b = iz zB b' ∧ (b' = true → We fr Γ Θ u K) ∧ (b' = false → K (iz zB false) Θ) :=
  ⟨b, rfl, fun e σ F H ok env Q q => x (h.1 e) σ F H ok env Q fun p Θ' ⟨e1, c, e2, hc⟩ => q p Θ' (by rw [e1, e2]; exact kk c hc), fun e => kk false (h.2 e)⟩
theorem orKv {b : Bool} {f : (Bool → Prop) → Prop} {k : Bool → Prop} {u : TE} (h : orD b f k) (x : f k → We fr Γ Θ u fun p Θ' => Θ' = Θ ∧ ∃ c, p = iz zB c ∧ k c) (kk : ∀ c, k c → K (iz zB c) Θ) : ∃ b', iz zB b = iz zB b' ∧ (b' = false → We fr Γ Θ u K) ∧ (b' = true → K (iz zB true) Θ) :=
  ⟨b, rfl, fun e σ F H ok env Q q => x (h.2 e) σ F H ok env Q fun p Θ' ⟨e1, c, e2, hc⟩ => q p Θ' (by rw [e1, e2]; exact kk c hc), fun e => kk true (h.1 e)⟩
/-- a if c else b, of one kind; f is a way of both -/
theorem we_ifD {α : Type} {r : Rep α} {c : TT} {ta tb : TE} {k : α → Prop} (w : Wt fr Γ Θ c fun b Θ1 => Θ1 = Θ ∧ (b = true → We fr Γ Θ ta fun p Θ2 => Θ2 = Θ ∧ ∃ x, p = iz r x ∧ k x) ∧ (b = false → We fr Γ Θ tb fun p Θ2 => Θ2 = Θ ∧ ∃ x, p = iz r x ∧ k x)) (kk : ∀ x, k x → K (iz r x) Θ) : We fr Γ Θ (tIf c ta tb) K :=
  we_if fun σ F H ok env Q q => w σ F H ok env Q fun b Θ1 ⟨e, k1, k2⟩ => q b Θ1 (by
    subst e
    exact ⟨fun h => (k1 h).imp fun p Θ2 ⟨e1, x, e2, hx⟩ => by rw [e1, e2]; exact kk x hx, fun h => (k2 h).imp fun p Θ2 ⟨e1, x, e2, hx⟩ => by rw [e1, e2]; exact kk x hx⟩)
/-- a < b < c of ints -/
theorem we_chainI {h1 h2 : Int → Int → Bool} {ta tb tc : TE} (w : We fr Γ Θ ta fun p Θ1 => We fr Γ Θ1 tb fun q Θ2 => ∃ a b c, p = iz zI a ∧ q = iz zI b ∧ Ev fr Γ Θ2 tc (iz zI c) ∧ K (iz zB (h1 a b && h2 b c)) Θ2) : We fr Γ Θ (tChain (rI0 fun i j => .bl (h1 i j)) (rI0 fun i j => .bl (h2 i j)) ta tb tc) K := fun σ F H ok env Q q =>
  w σ F H ok env _ fun p Θ1 w1 v1 F1 H1 s1 ok1 hp1 => w1 σ F1 H1 ok1 (env.mono s1) _ fun p2 Θ2 ⟨a, b, c, e1, e2, w2, k⟩ v2 F2 H2 s2 ok2 hp2 => by
    subst e1 e2
    refine ⟨a, b, hp1, hp2, h1 a b, rfl, ?_⟩
    cases hb : h1 a b with
    | true =>
      rw [if_pos rfl]
      refine w2 σ F2 H2 ok2 ((env.mono s1).mono s2) _ fun o Θ3 ⟨e3, e4⟩ v3 F3 H3 s3 ok3 hp3 => ?_
      subst e3 e4
      rw [hb, Bool.true_and] at k
      exact ⟨b, c, hp2, hp3, q _ Θ3 k _ F3 H3 ((s1.trans s2).trans s3) ok3 rfl⟩
    | false =>
      rw [if_neg Bool.false_ne_true]
      rw [hb, Bool.false_and] at k
      exact q _ Θ2 k _ F2 H2 (s1.trans s2) ok2 rfl
/-! comprehensions -/
theorem we_lcW {α β : Type} {r : Rep α} {s : Rep β} {wi : TI} {g : TG} {tt : TT} {te : TE} {vs : List Nat}
    (w : Wi fr Γ Θ wi fun its Θ1 => ∃ (xs : List α) (f : α → (Option β → Prop) → Prop) (k : List β → Prop) (Γ2 : α → Gam), its = xs.map (iz r) ∧ Θ1 = Θ ∧ xs.length ≤ big ∧ (∀ x, TgR g vs (iz r x) (wipeG Γ vs) (Γ2 x)) ∧ compD xs [] f k ∧
      (∀ x c kx, f x kx → Wt fr (Γ2 x) (c :: Θ) tt fun b Θ1 => (b = true → We fr (Γ2 x) Θ1 te fun q Θ' => Θ' = c :: Θ ∧ ∃ y, q = iz s y ∧ kx (some y)) ∧ (b = false → Θ1 = c :: Θ ∧ kx none)) ∧
      (∀ ys, k ys → ys.length ≤ big → K (iz (yL s) ys) Θ)) : We fr Γ Θ (tLc wi g tt te vs) K := fun σ F H ok env Q q => by
  refine w σ F H ok env _ fun its Θ1 ⟨xs, f, k, Γ2, e1, e2, hl, tg, hc, hs, hk⟩ J F1 H1 s1 ok1 jok => ?_
  subst e1 e2
  intro D nD
  refine ⟨fun i m H' => m = xs.length - i ∧ i ≤ xs.length ∧ ∃ F2 ys, Same F1 F2 ∧ OkF fr (cL D s ys :: Θ1) F2 H' ∧ ys.length ≤ i ∧ compD (xs.drop i) ys f k, ⟨xs.length, by simp, Nat.zero_le _, F1, [], Same.refl _, ok1.mkOwn (c := cL D s []) nD rfl ⟨[], rfl, .nil⟩, Nat.le_refl _, hc⟩, ?_⟩
  rintro i m H' ⟨rfl, hi, F2, ys, s2, ok2, yl, py⟩
  obtain ⟨j1, j2⟩ := jok F2 H' s2 ok2.fh
  by_cases hlt : i < xs.length
  · have hx : xs[i]? = some xs[i] := List.getElem?_eq_getElem hlt
    generalize xs[i] = x at hx
    obtain ⟨jg, jy⟩ := j1 i (iz r x) (by rw [List.getElem?_map, hx]; rfl)
    refine .inr ⟨jg, fun H3 => ∃ F3 ys, Same F1 F3 ∧ OkF fr (cL D s ys :: Θ1) F3 H3 ∧ ys.length ≤ i + 1 ∧ compD (xs.drop (i + 1)) ys f k, fun H3 p => ⟨xs.length - (i + 1), by omega, rfl, hlt, p⟩, fun v H3 y => ?_⟩
    obtain ⟨F3, e1, e2, e3, e4, e5⟩ := jy v H3 y
    have ok3 := ok2.grow e2 e1 e3 e4
    have s3 := s2.trans e1
    have hd : xs.drop i = x :: xs.drop (i + 1) := by
      obtain ⟨hl, e⟩ := List.getElem?_eq_some_iff.mp hx
      rw [List.drop_eq_getElem_cons hl, e]
    rw [hd] at py
    refine tg x (L2.wipe σ vs) F3 H3 v ok3.fh ((env.mono (s1.trans s3)).wipe vs) e5 _ fun σ2 env2 hw => ⟨?_, ?_⟩
    · rw [hw, wipe_idem]
    · refine hs x _ _ py σ2 F3 H3 ok3 env2 _ fun b Θ2 ⟨k1, k2⟩ F4 H4 s4 ok4 => ?_
      cases b with
      | true =>
        rw [if_pos rfl]
        refine k1 rfl σ2 F4 H4 ok4 (env2.mono s4) _ fun p Θ3 ⟨e8, y, e9, hy⟩ u F5 H5 s5 ok5 hp => ?_
        subst e8 e9
        obtain ⟨_, ⟨o, h2, acc, rfl, h4⟩, _⟩ := ok5.ce _ (List.mem_cons_self ..)
        have ok6 := ok5.mut (i := 0) (c := cL D s ys) (c' := cL D s (ys ++ [y])) (o := .lst (acc ++ [u])) rfl rfl rfl ⟨_, rfl, PySem.Paired.snoc h4 hp⟩
        refine ⟨acc, h2, ?_, F5, ys ++ [y], (s3.trans s4).trans s5, ok6, by rw [List.length_append]; show _ + 1 ≤ _; omega, hy⟩
        rw [Paired.len h4]
        exact big_lt (by omega)
      | false =>
        rw [if_neg Bool.false_ne_true]
        obtain ⟨e8, hn⟩ := k2 rfl
        subst e8
        have hn : compD (xs.drop (i + 1)) (ys ++ []) f k := hn
        rw [List.append_nil] at hn
        exact ⟨F4, ys, s3.trans s4, ok4, by omega, hn⟩
  · have e : i = xs.length := by omega
    subst e
    rw [List.drop_length] at py
    obtain ⟨_, ⟨o, h2, acc, rfl, h4⟩, _⟩ := ok2.ce _ (List.mem_cons_self ..)
    have ok3 := ok2.frz (i := 0) (c := cL D s ys) rfl rfl h2
    have sD : Same F2 (upd F2 D (.lst acc)) := same_upd (ok2.ce _ (List.mem_cons_self ..)).1
    have yb : ys.length ≤ big := by omega
    refine .inl ⟨by rw [List.length_map] at j2; exact j2, q _ _ (hk ys py yb) _ _ H' ((s1.trans s2).trans sD) ok3 ⟨⟨D, acc, rfl, upd_same, Paired.imp2 (fun _ _ h => s.mono sD h) h4⟩, yb⟩⟩
/-- with a test, all plain -/
theorem we_lcP {α β : Type} {r : Rep α} {s : Rep β} {wi : TI} {g : TG} {tt : TT} {te : TE} {vs : List Nat}
    (w : Wi fr Γ Θ wi fun its Θ1 => ∃ (xs : List α) (pr : α → Bool) (f : α → β) (Γ2 : α → Gam), its = xs.map (iz r) ∧ Θ1 = Θ ∧ xs.length ≤ big ∧ (∀ x, TgR g vs (iz r x) (wipeG Γ vs) (Γ2 x)) ∧
      (∀ x c, Et fr (Γ2 x) (c :: Θ) tt (pr x)) ∧ (∀ x c, Ev fr (Γ2 x) (c :: Θ) te (iz s (f x))) ∧ K (iz (yL s) ((xs.filter pr).map f)) Θ) : We fr Γ Θ (tLc wi g tt te vs) K :=
  we_lcW (r := r) (s := s) fun σ F H ok env R q => w σ F H ok env R fun its Θ1 ⟨xs, pr, f, Γ2, e1, e2, hl, tg, ht, he, k⟩ => q its Θ1 ⟨xs, fun x k => ifD (pr x) (k (some (f x))) (k none), (· = (xs.filter pr).map f), Γ2, e1, e2, hl, tg, by rw [compD_pure]; rfl,
    fun x c kx h σ F H ok env Q q => ht x c σ F H ok env Q fun b Θ1 ⟨e1, e2⟩ => q b Θ1 (by
      subst e1 e2
      exact ⟨fun hb => (he x c).imp fun p Θ' ⟨e3, e4⟩ => ⟨e4, _, e3, h.1 hb⟩, fun hb => ⟨rfl, h.2 hb⟩⟩), fun ys e _ => by rw [e]; exact k⟩
/-- without a test -/
theorem we_lcM {α β : Type} {r : Rep α} {s : Rep β} {wi : TI} {g : TG} {te : TE} {vs : List Nat}
    (w : Wi fr Γ Θ wi fun its Θ1 => ∃ (xs : List α) (f : α → (β → Prop) → Prop) (k : List β → Prop) (Γ2 : α → Gam), its = xs.map (iz r) ∧ Θ1 = Θ ∧ xs.length ≤ big ∧ (∀ x, TgR g vs (iz r x) (wipeG Γ vs) (Γ2 x)) ∧ mapD xs [] f k ∧
      (∀ x c kx, f x kx → We fr (Γ2 x) (c :: Θ) te fun q Θ' => Θ' = c :: Θ ∧ ∃ y, q = iz s y ∧ kx y) ∧
      (∀ ys, k ys → ys.length ≤ big → K (iz (yL s) ys) Θ)) : We fr Γ Θ (tLc wi g tYes te vs) K :=
  we_lcW (r := r) (s := s) fun σ F H ok env R q => w σ F H ok env R fun its Θ1 ⟨xs, f, k, Γ2, e1, e2, hl, tg, hm, he, hk⟩ => q its Θ1 ⟨xs, fun x k => f x fun y => k (some y), k, Γ2, e1, e2, hl, tg, by rw [← mapD_comp]; exact hm,
    fun x c kx h => wt_yes ⟨fun _ => (he x c _ h), (fun h => nomatch h)⟩, hk⟩
theorem we_lcM0 {α β : Type} {r : Rep α} {s : Rep β} {wi : TI} {g : TG} {te : TE} {vs : List Nat}
    (w : Wi fr Γ Θ wi fun its Θ1 => ∃ (xs : List α) (f : α → β) (Γ2 : α → Gam), its = xs.map (iz r) ∧ Θ1 = Θ ∧ xs.length ≤ big ∧ (∀ x, TgR g vs (iz r x) (wipeG Γ vs) (Γ2 x)) ∧
      (∀ x c, Ev fr (Γ2 x) (c :: Θ) te (iz s (f x))) ∧ K (iz (yL s) (xs.map f)) Θ) : We fr Γ Θ (tLc wi g tYes te vs) K :=
  we_lcM (r := r) (s := s) fun σ F H ok env R q => w σ F H ok env R fun its Θ1 ⟨xs, f, Γ2, e1, e2, hl, tg, he, k⟩ => q its Θ1 ⟨xs, fun x k => k (f x), (· = xs.map f), Γ2, e1, e2, hl, tg, by rw [mapD_pure]; rfl,
    fun x c kx h => (he x c).imp fun p Θ' ⟨e3, e4⟩ => ⟨e4, _, e3, h⟩, fun ys e _ => by rw [e]; exact k⟩
/-- a comprehension's list becomes one's own -/
theorem we_mine {α : Type} {r : Rep α} {xs : List α} {t : TE} (w : We fr Γ Θ t K) : We fr Γ Θ t K := w
/-! statements -/
theorem kn_appY {Kf : PySem.W.Frag} {α : Type} {r : Rep α} {xs : List α} {a : Addr} {i j : Nat} {te : TE} {D : Ends} (hi : Γ[i]? = some (some (zAt a))) (hj : Θ[j]? = some (cY a r xs))
    (w : We fr Γ Θ te fun p Θ1 => ∃ x, p = iz r x ∧ Θ1[j]? = some (cY a r xs) ∧ xs.length < big ∧ Kn fr Γ (Θ1.set j (cY a r (xs ++ [x]))) D.nx) : Kn fr Γ Θ (tDrop (tBM Kf "list" rAppend (tVar i) (tCons te tNil)) D) := by
  refine kn_drop (we_bm (we_var hi ⟨fun F H v ok hv => ?_, wa_cons (w.imp fun p Θ1 ⟨x, e, hj1, hl, k⟩ => wa_nil ?_)⟩))
  · obtain ⟨_, ⟨o, h2, ⟨⟨vs, rfl, h4⟩, h5⟩⟩, _⟩ := ok.ce _ (List.mem_of_getElem? hj)
    have hv : v = .ref a := hv
    subst hv
    exact .inl ⟨rfl, vs, SqL.of h2⟩
  · subst e
    intro F H v vs ok hv hps Q q
    cases hps with
    | cons h1 hp => cases hp with
      | nil =>
        obtain ⟨_, ⟨o, h2, ⟨⟨us, rfl, h4⟩, h5⟩⟩, _⟩ := ok.ce _ (List.mem_of_getElem? hj1)
        have ok2 := ok.mut (c' := cY a r (xs ++ [x])) (o := .lst (us ++ [_])) hj1 rfl rfl ⟨⟨_, rfl, PySem.Paired.snoc h4 h1⟩, by rw [List.length_append]; exact hl⟩
        exact ⟨a, us, _, hv, rfl, h2, by rw [Paired.len h4]; exact big_lt (Nat.le_of_lt hl), q zNon _ k _ F _ (Same.refl F) ok2 rfl⟩
theorem kn_setY {α : Type} {r : Rep α} {xs : List α} {a : Addr} {i j : Nat} {te ti : TE} {D : Ends} (hi : Γ[i]? = some (some (zAt a)))
    (w : We fr Γ Θ te fun p Θ1 => We fr Γ Θ1 ti fun q Θ2 => ∃ x n m, p = iz r x ∧ q = iz zI n ∧ Θ2[j]? = some (cY a r xs) ∧ ixN xs.length n = some m ∧ Kn fr Γ (Θ2.set j (cY a r (xs.set m x))) D.nx) : Kn fr Γ Θ (tAsg te (gSub (tVar i) ti rSetL) D) := fun σ F H ok env =>
  w σ F H ok env _ fun p Θ1 k v F1 H1 s1 ok1 hp => by
    obtain ⟨v0, h1, h2⟩ := (env.mono s1).get hi
    have h2 : v0 = .ref a := h2
    subst h2
    refine ⟨_, h1, k σ F1 H1 ok1 (env.mono s1) _ fun q Θ2 ⟨x, n, m, e1, e2, hj, hm, k2⟩ w2 F2 H2 s2 ok2 hp2 => ?_⟩
    subst e1 e2
    obtain ⟨_, ⟨o, h3, ⟨⟨us, rfl, h4⟩, h5⟩⟩, _⟩ := ok2.ce _ (List.mem_of_getElem? hj)
    exact ⟨a, us, n, m, rfl, hp2, h3, by rw [Paired.len h4]; exact hm, k2 σ F2 _ (ok2.mut hj rfl rfl ⟨⟨_, rfl, Paired.set (r.mono s2 hp) m h4⟩, by rw [List.length_set]; exact h5⟩) ((env.mono s1).mono s2)⟩
theorem set_same {σ : L2.St} {i : Nat} {v : V} (h : σ[i]? = some (some v)) : σ.set i (some v) = σ := by
  apply List.ext_getElem?
  intro m
  rw [List.getElem?_set]
  split
  · rename_i q
    subst q
    rw [if_pos (List.getElem?_eq_some_iff.mp h).1, h]
  · rfl
theorem kn_frzY {α : Type} {r : Rep α} {xs : List α} {a : Addr} {i j : Nat} {P : L2.St → Hp → Prop} (hi : Γ[i]? = some (some (zAt a))) (hj : Θ[j]? = some (cY a r xs)) (k : Kn fr (Γ.set i (some (iz (yL r) xs))) (Θ.eraseIdx j) P) : Kn fr Γ Θ P := fun σ F H ok env => by
  obtain ⟨v, h1, h2⟩ := env.get hi
  have h2 : v = .ref a := h2
  subst h2
  obtain ⟨h0, ⟨o, h3, ⟨⟨vs, rfl, h5⟩, h6⟩⟩, _⟩ := ok.ce _ (List.mem_of_getElem? hj)
  have h3 : H a = some (.lst vs) := h3
  have ok2 := ok.frz hj rfl h3
  have s2 : Same F (upd F a (.lst vs)) := same_upd h0
  have := (env.mono s2).set (i := i) (p := iz (yL r) xs) (v := .ref a) ⟨⟨a, vs, rfl, upd_same, Paired.imp2 (fun _ _ h => r.mono s2 h) h5⟩, h6⟩
  rw [set_same h1] at this
  exact k σ _ H ok2 this
theorem rt_frzY {α : Type} {r : Rep α} {xs : List α} {a : Addr} {j : Nat} {rt : VK} (hj : Θ[j]? = some (cY a r xs)) (k : Rt fr (Θ.eraseIdx j) rt (iz (yL r) xs)) : Rt fr Θ rt (zAt a) := fun v F H ok hp => by
  have hp : v = .ref a := hp
  subst hp
  obtain ⟨h0, ⟨o, h3, ⟨⟨vs, rfl, h5⟩, h6⟩⟩, _⟩ := ok.ce _ (List.mem_of_getElem? hj)
  have h3 : H a = some (.lst vs) := h3
  have ok2 := ok.frz hj rfl h3
  exact k _ _ H ok2 ⟨⟨a, vs, rfl, upd_same, Paired.imp2 (fun _ _ h => r.mono (same_upd h0) h) h5⟩, h6⟩
theorem kn_augI {f : Int → Int → Int} {i : Nat} {te : TE} {D : Ends} {m : Int} (hi : Γ[i]? = some (some (iz zI m))) (w : We fr Γ Θ te fun p Θ1 => ∃ n, p = iz zI n ∧ Kn fr (Γ.set i (some (iz zI (f m n)))) Θ1 D.nx) : Kn fr Γ Θ (tAug i te (ipI f) D) := fun σ F H ok env => by
  obtain ⟨v, h1, h2⟩ := env.get hi
  have h2 : v = .int m := h2
  subst h2
  refine ⟨_, h1, w σ F H ok env _ fun p Θ1 ⟨n, e, k⟩ y F1 H1 s1 ok1 hp => ?_⟩
  subst e
  exact ⟨m, n, rfl, hp, k _ F1 H1 ok1 ((env.mono s1).set rfl)⟩
theorem kn_par {i j : Nat} {ta : TA} {D : Ends} (w : Wa fr Γ Θ ta fun ps Θ1 => ∃ p q, ps = [p, q] ∧ Kn fr ((Γ.set i (some p)).set j (some q)) Θ1 D.nx) : Kn fr Γ Θ (tPar i j ta D) := fun σ F H ok env =>
  w σ F H ok env _ fun ps Θ1 ⟨p, q, e, k⟩ vs F1 H1 s1 ok1 hps => by
    subst e
    cases hps with
    | cons h1 hp => cases hp with
      | cons h2 hp => cases hp with
        | nil => exact ⟨_, _, rfl, k _ F1 H1 ok1 (((env.mono s1).set h1).set h2)⟩
theorem kn_fall {rt : VK} (k : Rt fr Θ rt (iz yN ())) : Kn fr Γ Θ (fun _ H' => rt .non H') := fun σ F H ok env => k .non F H ok rfl
/-! plans -/
end
end L2

set_option Elab.async false
set_option linter.all false
set_option maxRecDepth 100000
set_option maxHeartbeats 4000000
/-! Promises of defs by what they compute; plans; equality; draws. -/
namespace L2
open PySem PySem.Spec PyProof.Rows PySem.HErr
def preW {α β : Type} (ef : HE → Er) (args : α → List Vp) (r : Rep β) (m : α → DM β) : Pre := fun ps out err => ∃ x Q X, ps = args x ∧ m x Q X ∧ out = (fun p => ∃ y, Q y ∧ p = iz r y) ∧ err = fun e => ∃ z, X z ∧ e = ef z
def preBW {α β : Type} (args : α → List Vp) (r : Rep β) (m : α → DM β) : PreB := fun qs o => ∃ x Q, qs = args x ∧ m x Q noX ∧ o = fun p => ∃ y, Q y ∧ p = iz r y
def RetW {β : Type} (fr : Fr) (Qv : VK) (r : Rep β) (Q : β → Prop) : Prop := ∀ y, Q y → ∀ Θ, Rt fr Θ Qv (iz r y)
def RetBW {β : Type} (fr : Fr) (b l : Addr) (Qv : VK) (r : Rep β) (Q : β → Prop) : Prop := ∀ y, Q y → ∀ Θ, cBox true b l ∈ Θ → Rt fr Θ Qv (iz r y)
def RseW (fr : Fr) (E : XK) (ef : HE → Er) (X : HE → Prop) : Prop := ∀ z, X z → ∀ Γ Θ, Kr fr Γ Θ (fun cls d _ H => E cls d H) (ef z)
section
variable {fr fr' : Fr} {Γ Γ' : Gam} {Θ Θ' : List Cel} {F F' H H' : Hp} {K : Vp → List Cel → Prop} {Qv : VK}
theorem RetW.fine {β : Type} {r : Rep β} {Q : β → Prop} (h : RetW fr Qv r Q) (l : FrLe fr fr') : RetW fr' Qv r Q := fun y hy Θ => (h y hy Θ).fine l
theorem RetBW.fine {β : Type} {b l : Addr} {r : Rep β} {Q : β → Prop} (h : RetBW fr b l Qv r Q) (le : FrLe fr fr') : RetBW fr' b l Qv r Q := fun y hy Θ hc => (h y hy Θ hc).fine le
theorem RseW.fine {E : XK} {ef : HE → Er} {X : HE → Prop} (h : RseW fr E ef X) (l : FrLe fr fr') : RseW fr' E ef X := fun z hz Γ Θ σ F H ok env d us hd hf => h z hz Γ Θ σ F H (ok.le l) env d us hd hf
theorem sps_W {α β : Type} {ef : HE → Er} {args : α → List Vp} {r : Rep β} {m : α → DM β} {E : L2.St → XK} {ps : List Vp} {Q : β → Prop} {X : HE → Prop} (x : α) (h : m x Q X) (k : ∀ y, Q y → K (iz r y) Θ) (xx : ∀ z, X z → Kr fr Γ Θ (fun cls d σ H => E σ cls d H) (ef z)) (e : ps = args x := by rfl) : Sps fr Γ Θ (spA (preW ef args r m)) E ps K :=
  sps_A ⟨x, Q, X, e, h, rfl, rfl⟩ (fun p ⟨y, hy, e⟩ => by rw [e]; exact k y hy) fun er ⟨z, hz, e⟩ => by rw [e]; exact xx z hz
/-- nothing is raised -/
theorem sps_W0 {α β : Type} {ef : HE → Er} {args : α → List Vp} {r : Rep β} {m : α → DM β} {E : L2.St → XK} {ps : List Vp} {Q : β → Prop} (x : α) (h : m x Q noX) (k : ∀ y, Q y → K (iz r y) Θ) (e : ps = args x := by rfl) : Sps fr Γ Θ (spA (preW ef args r m)) E ps K := sps_W x h k (fun z hz => hz.elim) e
/-- what is raised leaves the def -/
theorem sps_WE {α β : Type} {ef : HE → Er} {args : α → List Vp} {r : Rep β} {m : α → DM β} {E : XK} {ps : List Vp} {Q : β → Prop} {X : HE → Prop} (hx : RseW fr E ef X) (x : α) (h : m x Q X) (k : ∀ y, Q y → K (iz r y) Θ) (e : ps = args x := by rfl) : Sps fr Γ Θ (spA (preW ef args r m)) (fun _ => E) ps K := sps_W x h k (fun z hz => hx z hz Γ Θ) e
theorem sps_BW {α β : Type} {args : α → List Vp} {r : Rep β} {m : α → DM β} {E : L2.St → XK} {ps : List Vp} {Q : β → Prop} {b l : Addr} {j : Nat} (hj : Θ[j]? = some (cBox true b l)) (x : α) (h : m x Q noX) (k : ∀ y, Q y → K (iz r y) Θ) (e : ps = zAt b :: args x := by rfl) : Sps fr Γ Θ (spC (preB (preBW args r m))) E ps K := by
  subst e
  exact sps_B (List.mem_of_getElem? hj) ⟨x, Q, rfl, h, rfl⟩ fun p ⟨y, hy, e⟩ => by rw [e]; exact k y hy
def drawD (m : Int) (k : Int → Prop) : Prop := 0 < m ∧ m ≤ 10 ^ 40 ∧ ∀ n, 0 ≤ n → n < m → k n
theorem sps_draw {E : L2.St → XK} {b l : Addr} {own : Bool} {m : Int} {j : Nat} {k : Int → Prop} (hj : Θ[j]? = some (cBox own b l)) (h : drawD m k) (kk : ∀ n, k n → K (iz zI n) Θ) : Sps fr Γ Θ spNext E [zAt b, iz zI m] K := sps_next (List.mem_of_getElem? hj) h.1 h.2.1 fun n h0 h1 => kk n (h.2.2 n h0 h1)
/-! a plan's fields -/
section
variable {Kf : PySem.W.Frag} {mg : Str → Option Value} {C : Addr} {d : PlanD}
theorem FldR.conv {f : Str} {p q q' : Vp} (h : FldR Kf f p q) (hq : ∀ F v u, p.p F v → q.p F u → q'.p F u) : FldR Kf f p q' := fun F v hp => by
  obtain ⟨a, C, dx, fs, u, h1, h2, h3, h4, h5, h6⟩ := h F v hp
  exact ⟨a, C, dx, fs, u, h1, h2, h3, h4, h5, hq F v u hp h6⟩
theorem wd_big {z : Str} (h : Wd z) : z.length ≤ big := Nat.le_trans h.len (by decide)
theorem fy_places (T : PlanC Kf mg C) : FldP fr Θ Kf "places" (iz (zPlan C) d) (iz (yT yS) d.places) := ((fld_places T.k).conv fun F v u hp hq => le_TT (Nat.le_trans (plan_ok hp).p12 (by decide)) (s := yS) (fun F v x hx h => ⟨h, wd_big ((plan_ok hp).pa x hx)⟩) F u hq).p
theorem fy_begin (T : PlanC Kf mg C) : FldP fr Θ Kf "begin" (iz (zPlan C) d) (iz (yT zI) d.begin) := ((fld_begin T.k).conv fun F v u hp hq => le_TT (Nat.le_trans (Nat.le_of_eq (plan_ok hp).bl) (Nat.le_trans (plan_ok hp).p12 (by decide))) (fun F v x hx h => h) F u hq).p
theorem PlanOk.nl (h : PlanOk d) : d.names.length ≤ 16 := by unfold PlanD.names; rw [List.length_map]; exact h.s16
theorem PlanOk.nw (h : PlanOk d) {z : Str} (hz : z ∈ d.names) : Wd z := by
  obtain ⟨r, hr, rfl⟩ := List.mem_map.mp hz
  exact (h.st r hr).1
theorem fy_steps (T : PlanC Kf mg C) : FldP fr Θ Kf "steps" (iz (zPlan C) d) (iz (yT yS) d.names) := ((fld_steps T.k).conv fun F v u hp hq => le_TT (Nat.le_trans (plan_ok hp).nl (by decide)) (s := yS) (fun F v x hx h => ⟨h, wd_big ((plan_ok hp).nw hx)⟩) F u hq).p
theorem KVs.imp {α : Type} {r s : Rep α} {kvs : List (Key × V)} {rows : List (Str × α)} (h : KVs r F kvs rows) (f : ∀ v x, x ∈ rows → r.p F v x.2 → s.p F v x.2) : KVs s F kvs rows := by
  have : ∀ {kvs : List (Key × V)} {rows : List (Str × α)}, KVs r F kvs rows → (∀ v x, x ∈ rows → r.p F v x.2 → s.p F v x.2) → KVs s F kvs rows := by
    intro kvs rows h
    induction h with
    | nil => intro _; exact .nil
    | cons a _ ih => intro f; exact .cons ⟨a.1, f _ _ (List.mem_cons_self ..) a.2⟩ (ih fun v x hx => f v x (List.mem_cons_of_mem _ hx))
  exact this h f
theorem PlanOk.tl (h : PlanOk d) {r : SRow} (hr : r ∈ d.steps) : r.2.1.length ≤ 12 ∧ r.2.2.length ≤ 12 := by
  obtain ⟨_, _, h1, h2⟩ := h.st r hr
  have a1 := List.length_filter_le (fun p => decide (p ∈ r.2.1)) d.places
  have a2 := List.length_filter_le (fun p => decide (p ∈ r.2.2)) d.places
  have e1 : (d.places.filter fun p => decide (p ∈ r.2.1)) = r.2.1 := h1
  have e2 : (d.places.filter fun p => decide (p ∈ r.2.2)) = r.2.2 := h2
  rw [e1] at a1
  rw [e2] at a2
  have := h.p12
  exact ⟨by omega, by omega⟩
theorem fy_taken (T : PlanC Kf mg C) : FldP fr Θ Kf "taken" (iz (zPlan C) d) (iz (yD (yT yS)) d.tk) := ((fld_taken T.k).conv fun F v u hp hq => by
  have pk := plan_ok hp
  obtain ⟨a, kvs, h1, h2, h3⟩ := hq
  refine ⟨⟨a, kvs, h1, h2, h3.imp fun v x hx h => ?_⟩, by unfold PlanD.tk; rw [List.length_map]; exact Nat.le_trans pk.s16 (by decide)⟩
  obtain ⟨r, hr, rfl⟩ := List.mem_map.mp hx
  exact le_TT (Nat.le_trans (pk.tl hr).1 (by decide)) (s := yS) (fun F v x hx h => ⟨h, wd_big (pk.pa x (pk.tk hr hx))⟩) F v h).p
theorem fy_given (T : PlanC Kf mg C) : FldP fr Θ Kf "given" (iz (zPlan C) d) (iz (yD (yT yS)) d.gv) := ((fld_given T.k).conv fun F v u hp hq => by
  have pk := plan_ok hp
  obtain ⟨a, kvs, h1, h2, h3⟩ := hq
  refine ⟨⟨a, kvs, h1, h2, h3.imp fun v x hx h => ?_⟩, by unfold PlanD.gv; rw [List.length_map]; exact Nat.le_trans pk.s16 (by decide)⟩
  obtain ⟨r, hr, rfl⟩ := List.mem_map.mp hx
  exact le_TT (Nat.le_trans (pk.tl hr).2 (by decide)) (s := yS) (fun F v x hx h => ⟨h, wd_big (pk.pa x (pk.gv hr hx))⟩) F v h).p
end
/-! dicts with words as keys -/
def DicY {α : Type} (fr : Fr) (Θ : List Cel) (p : Vp) (r : Rep α) (rows : List (Str × α)) : Prop := DicP fr Θ p r rows ∧ ∀ F H v, OkF fr Θ F H → p.p F v → rows.length ≤ big
theorem dy_D {α : Type} {r : Rep α} {rows : List (Str × α)} : DicY fr Θ (iz (yD r) rows) r rows := ⟨fun F H v ok h => dic_D F H v ok h.1, fun _ _ _ _ h => h.2⟩
theorem dy_C {α : Type} {r : Rep α} {rows : List (Str × α)} {a : Addr} {j : Nat} (hj : Θ[j]? = some (cYD a r rows)) : DicY fr Θ (zAt a) r rows := ⟨fun F H v ok hv => by
  obtain ⟨_, ⟨o, h2, ⟨⟨kvs, rfl, h4⟩, h5⟩⟩, _⟩ := ok.ce _ (List.mem_of_getElem? hj)
  exact ⟨a, kvs, hv, h2, h4⟩, fun F H v ok hv => by
  obtain ⟨_, ⟨o, h2, ⟨⟨kvs, rfl, h4⟩, h5⟩⟩, _⟩ := ok.ce _ (List.mem_of_getElem? hj)
  exact h5⟩
theorem wy_dget {td ty : TE} (w : We fr Γ Θ td fun p Θ1 => We fr Γ Θ1 ty fun q Θ2 => ∃ (α : Type) (r : Rep α) (rows : List (Str × α)) (n : Str) (x : α), DicY fr Θ2 p r rows ∧ q = iz yS n ∧ getR rows n = some x ∧ K (iz r x) Θ2) : We fr Γ Θ (tDGet td ty) K := we_dget (w.imp fun p Θ1 w1 => We.conv (w1.imp fun q Θ2 ⟨α, r, rows, n, x, h1, h2, h3, h4⟩ => ⟨iz zS n, by rw [h2]; exact le_zS, α, r, rows, n, x, h1.1, rfl, h3, h4⟩))
theorem wy_din {td ty : TE} (w : We fr Γ Θ ty fun q Θ1 => We fr Γ Θ1 td fun p Θ2 => ∃ (α : Type) (r : Rep α) (rows : List (Str × α)) (n : Str), DicY fr Θ2 p r rows ∧ q = iz yS n ∧ K (iz zB (getR rows n).isSome) Θ2) : We fr Γ Θ (tDIn ty td) K := fun σ F H ok env Q q =>
  w σ F H ok env _ fun p Θ1 k v F1 H1 s1 ok1 hp => k σ F1 H1 ok1 (env.mono s1) _ fun p2 Θ2 ⟨α, r, rows, n, hd, e, kk⟩ v2 F2 H2 s2 ok2 hp2 => by
    subst e
    obtain ⟨a, kvs, h1, h2, h3⟩ := hd.1 F2 H2 v2 ok2 hp2
    refine ⟨a, _, h1, .inl ⟨kvs, Sum.inr n, .inl h2, hp.1.1, rfl⟩, q _ _ kk _ F2 H2 (s1.trans s2) ok2 ?_⟩
    show _ = V.bl _
    rw [opt_some h3]
theorem wy_dnin {td ty : TE} (w : We fr Γ Θ ty fun q Θ1 => We fr Γ Θ1 td fun p Θ2 => ∃ (α : Type) (r : Rep α) (rows : List (Str × α)) (n : Str), DicY fr Θ2 p r rows ∧ q = iz yS n ∧ K (iz zB (!(getR rows n).isSome)) Θ2) : We fr Γ Θ (tDNotIn ty td) K := fun σ F H ok env Q q =>
  w σ F H ok env _ fun p Θ1 k v F1 H1 s1 ok1 hp => k σ F1 H1 ok1 (env.mono s1) _ fun p2 Θ2 ⟨α, r, rows, n, hd, e, kk⟩ v2 F2 H2 s2 ok2 hp2 => by
    subst e
    obtain ⟨a, kvs, h1, h2, h3⟩ := hd.1 F2 H2 v2 ok2 hp2
    refine ⟨a, _, h1, .inl ⟨kvs, Sum.inr n, .inl h2, hp.1.1, rfl⟩, q _ _ kk _ F2 H2 (s1.trans s2) ok2 ?_⟩
    show _ = V.bl _
    rw [opt_some h3]
theorem wy_dnew {α : Type} (r : Rep α) (k : ∀ a, K (zAt a) (cYD a r [] :: Θ)) : We fr Γ Θ tDNewK K := fun σ F H ok env Q q a na => q _ _ (k a) _ F _ (Same.refl F) (ok.mkOwn (c := cYD a r []) na rfl ⟨⟨[], rfl, .nil⟩, Nat.zero_le _⟩) rfl
theorem putR_len {α : Type} (rows : List (Str × α)) (n : Str) (x : α) : (putR rows n x).length ≤ rows.length + 1 := by
  unfold putR
  split
  · rw [List.length_map]; omega
  · rw [List.length_append]; exact Nat.le_refl _
theorem ky_dput {td ty tv : TE} {D : Ends} (w : We fr Γ Θ tv fun p Θ1 => We fr Γ Θ1 td fun pd Θ2 => We fr Γ Θ2 ty fun q Θ3 => ∃ (α : Type) (r : Rep α) (rows : List (Str × α)) (n : Str) (x : α) (a : Addr) (j : Nat), p = iz r x ∧ pd = zAt a ∧ q = iz yS n ∧ Θ3[j]? = some (cYD a r rows) ∧ rows.length < big ∧ Kn fr Γ (Θ3.set j (cYD a r (putR rows n x))) D.nx) : Kn fr Γ Θ (sDPut td ty tv D) := fun σ F H ok env =>
  w σ F H ok env _ fun p Θ1 k v F1 H1 s1 ok1 hp => k σ F1 H1 ok1 (env.mono s1) _ fun p2 Θ2 k2 v2 F2 H2 s2 ok2 hp2 => k2 σ F2 H2 ok2 ((env.mono s1).mono s2) _ fun p3 Θ3 ⟨α, r, rows, n, x, a, j, e1, e2, e3, hj, hl, kk⟩ v3 F3 H3 s3 ok3 hp3 => by
    subst e1 e2 e3
    obtain ⟨_, ⟨o, h2, ⟨⟨kvs, rfl, h4⟩, h5⟩⟩, _⟩ := ok3.ce _ (List.mem_of_getElem? hj)
    refine ⟨a, _, hp2, .inl ⟨kvs, Sum.inr n, h2, hp3.1.1, by rw [Paired.len h4]; exact big_lt h5, rfl⟩, ?_⟩
    exact kk σ F3 _ (ok3.mut hj rfl rfl ⟨⟨_, rfl, h4.put (r.mono (s2.trans s3) hp)⟩, Nat.le_trans (putR_len rows n x) hl⟩) (((env.mono s1).mono s2).mono s3)
/-! raise -/
theorem kn_raiseY {tm : Bool} {C : Addr} {fs : List Str} {W : WX} {ta : TA} {D : Ends} (w : Wa fr Γ Θ ta fun ps Θ1 => ps.length = fs.length ∧ (tm = true → ∃ z r, ps = iz yS z :: r ∧ z.length ≤ 1000) ∧ Kr fr Γ Θ1 W ⟨C, (fs.zip ps).reverse⟩) : Kn fr Γ Θ (tRaiseE tm C fs W ta D) := fun σ F H ok env =>
  w σ F H ok env _ fun ps Θ1 ⟨hl, ht, k⟩ vs F1 H1 s1 ok1 hps => by
    refine ⟨by rw [← Paired.len hps]; exact hl, fun h => ?_, fun d nd => ?_⟩
    · obtain ⟨z, r, e, hz⟩ := ht h
      subst e
      cases hps with
      | cons a b => exact ⟨z, _, by rw [a.1.1], hz⟩
    · have s2 := ok1.sameF (o := .xd (fs.zip vs).reverse) nd
      exact k σ _ _ (ok1.new nd) ((env.mono s1).mono s2) d _ upd_same (Paired.rev (zip_ok (fs := fs) (ps_mono s2 hps)))
def erW (cs : EK → Addr) : HE → Er
  | .tooMany k l => ⟨cs .tooMany, [("limit", iz zI l), ("kind", iz yS k)]⟩
  | .badWord w => ⟨cs .badWord, [("word", iz yS w)]⟩
  | .double n => ⟨cs .double, [("name", iz yS n)]⟩
  | .badNumber n => ⟨cs .badNumber, [("number", iz zI n)]⟩
  | .empty n => ⟨cs .empty, [("name", iz yS n)]⟩
  | .unknown n => ⟨cs .unknown, [("name", iz yS n)]⟩
  | .inUse n => ⟨cs .inUse, [("name", iz yS n)]⟩
  | .badState ns => ⟨cs .badState, [("numbers", iz (yT zI) ns)]⟩
  | .notReady s p i => ⟨cs .notReady, [("at", iz zI i), ("place", iz yS p), ("step", iz yS s)]⟩
  | .notSound d => ⟨cs .notSound, [("paper", iz yX d)]⟩
  | .badPair n => ⟨cs .badPair, [("name", iz yS n)]⟩
  | .badText n => ⟨cs .badText, [("line_number", iz zI n)]⟩
  | .noUndo => ⟨cs .noUndo, []⟩
/-! equality -/
instance : Dat yS := ⟨PyData.str, 0, fun h => Dat.dp (r := zS) h.1, fun h => Dat.ok (r := zS) h.1, fun x => Dat.dl (r := zS) x, fun h => Dat.inj (r := zS) h⟩
instance {α : Type} {r : Rep α} [d : Dat r] : Dat (yL r) := ⟨Dat.enc (zL r), Dat.dep (zL r), fun h => Dat.dp (r := zL r) h.1, fun h => Dat.ok (r := zL r) h.1, fun x => Dat.dl (r := zL r) x, fun h => Dat.inj (r := zL r) h⟩
instance {α : Type} {r : Rep α} [d : Dat r] : Dat (yT r) := ⟨Dat.enc (zT r), Dat.dep (zT r), fun h => Dat.dp (r := zT r) h.1, fun h => Dat.ok (r := zT r) h.1, fun x => Dat.dl (r := zT r) x, fun h => Dat.inj (r := zT r) h⟩
end
/-! defs -/
section
variable {P : Program} {w : World} {K : PySem.W.Frag} {mg : Str → Option Value} {base : Heap} {x m qual : Str} {C : Addr} {st : Stmt} {N ps : List Str} {k : Nat} {α β : Type} {ef : HE → Er} {args : α → List Vp} {r : Rep β} {md : α → DM β}
theorem Src.okW (F : Src K mg x st ps) (S : FnScope N ps (defScope st)) (len : ∀ x, (args x).length = ps.length)
    (hbody : ∀ (f : Addr) (cdv : Value) (A : Around) (outer : List Env) (s : Shared) (H : Hp) (E : XK) (a : α) (Q : β → Prop) (X : HE → Prop), Room k (A.deeper (envOfC x (defScope st) s.heap.objs.size f cdv)) → md a Q X →
      ∃ t, PSs (cxOf CX0 P w K mg base N x (defScope st) f cdv A outer s H E).nox (defBody st) t ∧ ∀ fr Qv, RetW fr Qv r Q → Kn fr (envOf N (args a)) [] (t { nx := fun _ H' => Qv .non H', rt := Qv })) : Def P w K mg base CX0 (k + 1) x ps (spA (preW ef args r md)) :=
  F.okA S (fun qs out err ⟨a, Q, X, e, _⟩ => by rw [e]; exact len a) fun f cdv A outer s H E qs out err hr ⟨a, Q, X, e1, h, e2, e3⟩ => by
    subst e1 e2 e3
    obtain ⟨t, ht, hk⟩ := hbody f cdv A outer s H E a Q X hr h
    exact ⟨t, ht, fun fr Qv hret => hk fr Qv fun y hy Θ => hret _ ⟨y, hy, rfl⟩ Θ⟩
theorem Src.okWX (F : Src K mg x st ps) (S : FnScope N ps (defScope st)) (len : ∀ x, (args x).length = ps.length)
    (hbody : ∀ (f : Addr) (cdv : Value) (A : Around) (outer : List Env) (s : Shared) (H : Hp) (E : XK) (a : α) (Q : β → Prop) (X : HE → Prop), Room k (A.deeper (envOfC x (defScope st) s.heap.objs.size f cdv)) → md a Q X →
      ∃ t, PSs (cxOf (L2.CX P w) P w K mg base N x (defScope st) f cdv A outer s H E) (defBody st) t ∧ ∀ fr Qv, RetW fr Qv r Q → RseW fr E ef X → Kn fr (envOf N (args a)) [] (t { nx := fun _ H' => Qv .non H', rt := Qv })) : Def P w K mg base (L2.CX P w) (k + 1) x ps (spA (preW ef args r md)) :=
  F.okAX S (fun qs out err ⟨a, Q, X, e, _⟩ => by rw [e]; exact len a) fun f cdv A outer s H E qs out err hr ⟨a, Q, X, e1, h, e2, e3⟩ => by
    subst e1 e2 e3
    obtain ⟨t, ht, hk⟩ := hbody f cdv A outer s H E a Q X hr h
    exact ⟨t, ht, fun fr Qv hret hrse => hk fr Qv (fun y hy Θ => hret _ ⟨y, hy, rfl⟩ Θ) fun z hz Γ Θ => kr_E hrse ⟨z, hz, rfl⟩⟩
theorem Src.okBW (F : Src K mg x st ps) (S : FnScope N ps (defScope st)) (len : ∀ x, (args x).length + 1 = ps.length)
    (hbody : ∀ (f : Addr) (cdv : Value) (A : Around) (outer : List Env) (s : Shared) (H : Hp) (E : XK) (b l : Addr) (a : α) (Q : β → Prop), Room k (A.deeper (envOfC x (defScope st) s.heap.objs.size f cdv)) → md a Q noX →
      ∃ t, PSs (cxOf CX0 P w K mg base N x (defScope st) f cdv A outer s H E).nox (defBody st) t ∧ ∀ fr Qv, RetBW fr b l Qv r Q → Kn fr (envOf N (zAt b :: args a)) [cBox true b l] (t { nx := fun _ H' => Qv .non H', rt := Qv })) : Def P w K mg base CX0 (k + 1) x ps (spC (preB (preBW args r md))) :=
  F.okB S (fun qs o ⟨a, Q, e, _⟩ => by rw [e]; exact len a) fun f cdv A outer s H E b l qs o hr ⟨a, Q, e1, h, e2⟩ => by
    subst e1 e2
    obtain ⟨t, ht, hk⟩ := hbody f cdv A outer s H E b l a Q hr h
    exact ⟨t, ht, fun fr Qv hret => hk fr Qv fun y hy Θ hc => hret _ ⟨y, hy, rfl⟩ Θ hc⟩
theorem SrcM.okW (F : SrcM K C m qual st ps) (S : FnScope N ps (defScope st)) (len : ∀ x, (args x).length = ps.length)
    (hbody : ∀ (f : Addr) (cdv : Value) (A : Around) (outer : List Env) (s : Shared) (H : Hp) (E : XK) (a : α) (Q : β → Prop) (X : HE → Prop), Room k (A.deeper (envOfC qual (defScope st) s.heap.objs.size f cdv)) → md a Q X →
      ∃ t, PSs (cxOf CX0 P w K mg base N qual (defScope st) f cdv A outer s H E).nox (defBody st) t ∧ ∀ fr Qv, RetW fr Qv r Q → Kn fr (envOf N (args a)) [] (t { nx := fun _ H' => Qv .non H', rt := Qv })) : DefM P w K mg base CX0 (k + 1) C m ps (spA (preW ef args r md)) :=
  F.okA S (fun qs out err ⟨a, Q, X, e, _⟩ => by rw [e]; exact len a) fun f cdv A outer s H E qs out err hr ⟨a, Q, X, e1, h, e2, e3⟩ => by
    subst e1 e2 e3
    obtain ⟨t, ht, hk⟩ := hbody f cdv A outer s H E a Q X hr h
    exact ⟨t, ht, fun fr Qv hret => hk fr Qv fun y hy Θ => hret _ ⟨y, hy, rfl⟩ Θ⟩
theorem SrcM.okWX (F : SrcM K C m qual st ps) (S : FnScope N ps (defScope st)) (len : ∀ x, (args x).length = ps.length)
    (hbody : ∀ (f : Addr) (cdv : Value) (A : Around) (outer : List Env) (s : Shared) (H : Hp) (E : XK) (a : α) (Q : β → Prop) (X : HE → Prop), Room k (A.deeper (envOfC qual (defScope st) s.heap.objs.size f cdv)) → md a Q X →
      ∃ t, PSs (cxOf (L2.CX P w) P w K mg base N qual (defScope st) f cdv A outer s H E) (defBody st) t ∧ ∀ fr Qv, RetW fr Qv r Q → RseW fr E ef X → Kn fr (envOf N (args a)) [] (t { nx := fun _ H' => Qv .non H', rt := Qv })) : DefM P w K mg base (L2.CX P w) (k + 1) C m ps (spA (preW ef args r md)) :=
  F.okAX S (fun qs out err ⟨a, Q, X, e, _⟩ => by rw [e]; exact len a) fun f cdv A outer s H E qs out err hr ⟨a, Q, X, e1, h, e2, e3⟩ => by
    subst e1 e2 e3
    obtain ⟨t, ht, hk⟩ := hbody f cdv A outer s H E a Q X hr h
    exact ⟨t, ht, fun fr Qv hret hrse => hk fr Qv (fun y hy Θ => hret _ ⟨y, hy, rfl⟩ Θ) fun z hz Γ Θ => kr_E hrse ⟨z, hz, rfl⟩⟩
end
end L2

set_option Elab.async false
set_option linter.all false
set_option maxRecDepth 100000
set_option maxHeartbeats 4000000
/-! Further rules for the printed walks. -/
namespace L2
open PySem PySem.Spec PyProof.Rows PySem.HErr
def optD {α : Type} (o : Option α) (A : Prop) (B : α → Prop) : Prop := (o = none → A) ∧ ∀ y, o = some y → B y
section
variable {fr fr' : Fr} {Γ Γ' : Gam} {Θ Θ' : List Cel} {F F' H H' : Hp} {K : Vp → List Cel → Prop} {Qv : VK}
theorem wt_andP {K : Bool → List Cel → Prop} {t u : TT} (w : Wt fr Γ Θ t fun b Θ1 => ∃ c, (b = true → Et fr Γ Θ1 u c) ∧ K (b && c) Θ1) : Wt fr Γ Θ (tAnd t u) K :=
  wt_andC fun σ F H ok env Q q => w σ F H ok env Q fun b Θ1 ⟨c, h1, k⟩ => q b Θ1 ⟨fun e σ F H ok env Q q => h1 e σ F H ok env Q fun c' Θ' ⟨e1, e2⟩ => q c' Θ' (by
    subst e1 e2 e
    exact k), fun e => by
    subst e
    exact k⟩
theorem wt_orP {K : Bool → List Cel → Prop} {t u : TT} (w : Wt fr Γ Θ t fun b Θ1 => ∃ c, (b = false → Et fr Γ Θ1 u c) ∧ K (b || c) Θ1) : Wt fr Γ Θ (tOr t u) K :=
  wt_orC fun σ F H ok env Q q => w σ F H ok env Q fun b Θ1 ⟨c, h1, k⟩ => q b Θ1 ⟨fun e σ F H ok env Q q => h1 e σ F H ok env Q fun c' Θ' ⟨e1, e2⟩ => q c' Θ' (by
    subst e1 e2 e
    exact k), fun e => by
    subst e
    exact k⟩
theorem we_andP {t u : TE} (w : We fr Γ Θ t fun p Θ1 => ∃ b c, p = iz zB b ∧ (b = true → Ev fr Γ Θ1 u (iz zB c)) ∧ K (iz zB (b && c)) Θ1) : We fr Γ Θ (tAndV t u) K :=
  we_andC (w.imp fun p Θ1 ⟨b, c, e, h1, k⟩ => ⟨b, e, fun e => (h1 e).imp fun p Θ' ⟨e1, e2⟩ => by
    subst e1 e2 e
    exact k, fun e => by
    subst e
    exact k⟩)
theorem we_orP {t u : TE} (w : We fr Γ Θ t fun p Θ1 => ∃ b c, p = iz zB b ∧ (b = false → Ev fr Γ Θ1 u (iz zB c)) ∧ K (iz zB (b || c)) Θ1) : We fr Γ Θ (tOrV t u) K :=
  we_orC (w.imp fun p Θ1 ⟨b, c, e, h1, k⟩ => ⟨b, e, fun e => (h1 e).imp fun p Θ' ⟨e1, e2⟩ => by
    subst e1 e2 e
    exact k, fun e => by
    subst e
    exact k⟩)
theorem we_ifP {α : Type} {r : Rep α} {c : TT} {ta tb : TE} (w : Wt fr Γ Θ c fun b Θ1 => ∃ x y, (b = true → Ev fr Γ Θ1 ta (iz r x)) ∧ (b = false → Ev fr Γ Θ1 tb (iz r y)) ∧ K (iz r (bif b then x else y)) Θ1) : We fr Γ Θ (tIf c ta tb) K :=
  we_if fun σ F H ok env Q q => w σ F H ok env Q fun b Θ1 ⟨x, y, h1, h2, k⟩ => q b Θ1 ⟨fun e => (h1 e).imp fun p Θ' ⟨e1, e2⟩ => by
    subst e1 e2 e
    exact k, fun e => (h2 e).imp fun p Θ' ⟨e1, e2⟩ => by
    subst e1 e2 e
    exact k⟩
instance : NotNon yS := ⟨fun F v x h => by rw [h.1.1]; exact fun q => by cases q⟩
instance {α : Type} {r : Rep α} : NotNon (yL r) := ⟨fun F v x h => NotNon.nn (r := zL r) F v x h.1⟩
instance {α : Type} {r : Rep α} : NotNon (yT r) := ⟨fun F v x h => NotNon.nn (r := zT r) F v x h.1⟩
instance {α : Type} {r : Rep α} : NotNon (yD r) := ⟨fun F v x ⟨⟨a, kvs, h, _⟩, _⟩ => by rw [h]; exact fun q => by cases q⟩
instance {α β : Type} {r : Rep α} {s : Rep β} : NotNon (zLp r s) := ⟨fun F v x ⟨a, u, w, h, _⟩ => by rw [h]; exact fun q => by cases q⟩
instance {α β γ δ : Type} {r : Rep α} {s : Rep β} {t : Rep γ} {u : Rep δ} : NotNon (z4 r s t u) := ⟨fun F v x ⟨a, v1, v2, v3, v4, h, _⟩ => by rw [h]; exact fun q => by cases q⟩
instance {C : Addr} : NotNon (zPlan C) := ⟨fun F v x ⟨a, h, _⟩ => by rw [h]; exact fun q => by cases q⟩
theorem oy_isO {α : Type} {r : Rep α} [NotNon r] {o : Option α} (k : K (iz zB o.isNone) Θ) : Ops fr Θ (fun x y H Q => y = .non ∧ Q (.bl (decide (x = .non))) H) (iz (yO r) o) (iz yN ()) K := fun F H v w ok hv hw Q q => by
  refine ⟨hw, q.go k ok ?_⟩
  show V.bl _ = V.bl _
  cases o with
  | none => rw [show v = .non from hv]; rfl
  | some x => rw [decide_eq_false (NotNon.nn F v x hv)]; rfl
theorem oy_notO {α : Type} {r : Rep α} [NotNon r] {o : Option α} (k : K (iz zB o.isSome) Θ) : Ops fr Θ (fun x y H Q => y = .non ∧ Q (.bl (!decide (x = .non))) H) (iz (yO r) o) (iz yN ()) K := fun F H v w ok hv hw Q q => by
  refine ⟨hw, q.go k ok ?_⟩
  show V.bl _ = V.bl _
  cases o with
  | none => rw [show v = .non from hv]; rfl
  | some x => rw [decide_eq_false (NotNon.nn F v x hv)]; rfl
theorem optK {α : Type} {o : Option α} {A : Prop} {B : α → Prop} {G1 G2 : Prop} (h : optD o A B) (h1 : o = none → A → G1) (h2 : ∀ y, o = some y → B y → G2) : (o.isNone = true → G1) ∧ (o.isNone = false → G2) := by
  cases o with
  | none => exact ⟨fun _ => h1 rfl (h.1 rfl), (fun e => by cases e)⟩
  | some y => exact ⟨(fun e => by cases e), fun _ => h2 y rfl (h.2 y rfl)⟩
theorem optKn {α : Type} {o : Option α} {A : Prop} {B : α → Prop} {G1 G2 : Prop} (h : optD o A B) (h1 : o = none → A → G1) (h2 : ∀ y, o = some y → B y → G2) : (o.isSome = true → G2) ∧ (o.isSome = false → G1) := by
  cases o with
  | none => exact ⟨(fun e => by cases e), fun _ => h1 rfl (h.1 rfl)⟩
  | some y => exact ⟨fun _ => h2 y rfl (h.2 y rfl), (fun e => by cases e)⟩
/-! truth -/
theorem ty_L' {Kf : PySem.W.Frag} {α : Type} {r : Rep α} {xs : List α} : TruP fr Θ Kf (iz (yL r) xs) (!xs.isEmpty) := fun F H v ok h => tru_L F H v ok h.1
theorem ty_T' {Kf : PySem.W.Frag} {α : Type} {r : Rep α} {xs : List α} : TruP fr Θ Kf (iz (yT r) xs) (!xs.isEmpty) := fun F H v ok h => tru_T F H v ok h.1
theorem ty_C' {Kf : PySem.W.Frag} {α : Type} {r : Rep α} {xs : List α} {a : Addr} {j : Nat} (hj : Θ[j]? = some (cY a r xs)) : TruP fr Θ Kf (zAt a) (!xs.isEmpty) := fun F H v ok hv => by
  have hv : v = .ref a := hv
  subst hv
  obtain ⟨_, ⟨o, h2, ⟨⟨vs, rfl, h4⟩, h5⟩⟩, _⟩ := ok.ce _ (List.mem_of_getElem? hj)
  exact .inl ⟨vs, SqL.of h2, by rw [emp_len h4]⟩
/-! lists of one form of data -/
theorem le_Os {α : Type} {r : Rep α} {x : α} : (iz r x).Le (iz (yO r) (some x)) := fun F v h => h
theorem le_On {α : Type} {r : Rep α} : (iz yN ()).Le (iz (yO r) none) := fun F v h => h
theorem kn_asgL {α : Type} {r : Rep α} {te : TE} {i : Nat} {D : Ends} (w : We fr Γ Θ te fun p Θ1 => ∃ v : α, p = iz r v ∧ ∀ v', v' = v → Kn fr (Γ.set i (some (iz r v'))) Θ1 D.nx) : Kn fr Γ Θ (tAsg te (gName i) D) := kn_asg (w.imp fun p Θ1 ⟨v, e, k⟩ => by
  subst e
  exact k v rfl)
theorem ty_yS {Kf : PySem.W.Frag} {n : Str} : TyP fr Θ Kf (iz yS n) (.type "str") := fun F H v ok h => ty_S F H v ok h.1
theorem ty_yL {Kf : PySem.W.Frag} {α : Type} {r : Rep α} {xs : List α} : TyP fr Θ Kf (iz (yL r) xs) (.type "list") := fun F H v ok h => ty_L F H v ok h.1
theorem ty_yT {Kf : PySem.W.Frag} {α : Type} {r : Rep α} {xs : List α} : TyP fr Θ Kf (iz (yT r) xs) (.type "tuple") := fun F H v ok h => ty_T F H v ok h.1
theorem intsF_big {n : Int} (h : n ≤ 100000) : (intsF 0 n.toNat).length ≤ big := by
  rw [intsF_len]
  have : big = 100000 := rfl
  omega
theorem intsF_big2 {m n : Int} (h : n - m ≤ 100000) : (intsF m (n - m).toNat).length ≤ big := by
  rw [intsF_len]
  have : big = 100000 := rfl
  omega
end
end L2

set_option Elab.async false
set_option linter.all false
set_option maxRecDepth 100000
set_option maxHeartbeats 4000000
/-! Data of any form. -/
namespace L2
open PySem PySem.Spec PyProof.Rows PySem.HErr
section
variable {fr fr' : Fr} {Γ Γ' : Gam} {Θ Θ' : List Cel} {F F' H H' : Hp} {K : Vp → List Cel → Prop} {Qv : VK}
theorem depth_mem {ds : List PyData} {d : PyData} {n : Nat} (h : PyData.depthAll ds ≤ n) (hd : d ∈ ds) : d.depth ≤ n := by
  induction ds with
  | nil => cases hd
  | cons a l ih =>
    simp only [PyData.depthAll] at h
    rcases List.mem_cons.mp hd with rfl | hd
    · omega
    · exact ih (by omega) hd
theorem xpAll_pvs : ∀ {ds : List PyData} {vs : List V}, xpAll F ds vs → (∀ d ∈ ds, d.depth ≤ 60) → PVs yX F vs ds
  | [], _, h, _ => by simp only [xpAll] at h; subst h; exact .nil
  | d :: ds, _, h, hd => by
    simp only [xpAll] at h
    obtain ⟨v, r, rfl, h2, h3⟩ := h
    exact .cons ⟨h2, hd d (List.mem_cons_self ..)⟩ (xpAll_pvs h3 fun x hx => hd x (List.mem_cons_of_mem _ hx))
class XDat {α : Type} (r : Rep α) where
  enc : α → PyData
  dep : Nat
  xd : ∀ {F : Hp} {v : V} {x : α}, r.p F v x → xp F (enc x) v ∧ (enc x).depth ≤ dep
theorem le_X {α : Type} {r : Rep α} [d : XDat r] {x : α} (h : d.dep ≤ 60 := by decide) : (iz r x).Le (iz yX (d.enc x)) := fun F v q => ⟨(d.xd q).1, Nat.le_trans (d.xd q).2 h⟩
instance : XDat yX := ⟨id, 60, fun h => h⟩
instance : XDat zI := ⟨PyData.int, 0, fun h => by simp only [xp, PyData.depth]; exact ⟨h, Nat.le_refl _⟩⟩
instance : XDat yN := ⟨fun _ => PyData.none, 0, fun h => by simp only [xp, PyData.depth]; exact ⟨h, Nat.le_refl _⟩⟩
instance : XDat yS := ⟨PyData.str, 0, fun h => by simp only [xp, PyData.depth]; exact ⟨⟨h.1.1, h.1.2, h.2⟩, Nat.le_refl _⟩⟩
theorem xd_all {α : Type} {r : Rep α} [d : XDat r] {vs : List V} {xs : List α} (h : PVs r F vs xs) : xpAll F (xs.map d.enc) vs ∧ PyData.depthAll (xs.map d.enc) ≤ d.dep := by
  induction h with
  | nil => exact ⟨by simp only [List.map_nil, xpAll], by simp only [List.map_nil, PyData.depthAll]; exact Nat.zero_le _⟩
  | cons a _ ih =>
    simp only [List.map_cons, xpAll, PyData.depthAll]
    have := (d.xd a).2
    have := ih.2
    exact ⟨⟨_, _, rfl, (d.xd a).1, ih.1⟩, by omega⟩
instance {α : Type} {r : Rep α} [d : XDat r] : XDat (yL r) := ⟨fun xs => .list (xs.map d.enc), d.dep + 1, fun ⟨⟨a, vs, h1, h2, h3⟩, h4⟩ => by
  have := (xd_all h3).2
  simp only [xp, PyData.depth]
  exact ⟨⟨a, vs, h1, h2, by rw [List.length_map]; exact h4, (xd_all h3).1⟩, by omega⟩⟩
instance {α : Type} {r : Rep α} [d : XDat r] : XDat (yT r) := ⟨fun xs => .tuple (xs.map d.enc), d.dep + 1, fun ⟨⟨a, vs, h1, h2, h3⟩, h4⟩ => by
  have := (xd_all h3).2
  simp only [xp, PyData.depth]
  exact ⟨⟨a, vs, h1, h2, by rw [List.length_map]; exact h4, (xd_all h3).1⟩, by omega⟩⟩
instance {α : Type} {r : Rep α} [d : XDat r] : XDat (z1 r) := ⟨fun x => .tuple [d.enc x], d.dep + 1, fun ⟨a, v1, h1, h2, h3⟩ => by
  have := (d.xd h3).2
  simp only [xp, xpAll, PyData.depth, PyData.depthAll]
  exact ⟨⟨a, _, h1, h2, by show 1 ≤ big; decide, _, _, rfl, (d.xd h3).1, rfl⟩, by omega⟩⟩
instance {α β : Type} {r : Rep α} {s : Rep β} [d : XDat r] [e : XDat s] : XDat (z2 r s) := ⟨fun x => .tuple [d.enc x.1, e.enc x.2], max d.dep e.dep + 1, fun ⟨a, u, w, h1, h2, h3, h4⟩ => by
  have := (d.xd h3).2
  have := (e.xd h4).2
  simp only [xp, xpAll, PyData.depth, PyData.depthAll]
  exact ⟨⟨a, _, h1, h2, by show 2 ≤ big; decide, _, _, rfl, (d.xd h3).1, _, _, rfl, (e.xd h4).1, rfl⟩, by omega⟩⟩
instance {α β γ : Type} {r : Rep α} {s : Rep β} {t : Rep γ} [d : XDat r] [e : XDat s] [f : XDat t] : XDat (z3 r s t) := ⟨fun x => .tuple [d.enc x.1, e.enc x.2.1, f.enc x.2.2], max d.dep (max e.dep f.dep) + 1, fun ⟨a, u, w, z, h1, h2, h3, h4, h5⟩ => by
  have := (d.xd h3).2
  have := (e.xd h4).2
  have := (f.xd h5).2
  simp only [xp, xpAll, PyData.depth, PyData.depthAll]
  exact ⟨⟨a, _, h1, h2, by show 3 ≤ big; decide, _, _, rfl, (d.xd h3).1, _, _, rfl, (e.xd h4).1, _, _, rfl, (f.xd h5).1, rfl⟩, by omega⟩⟩
instance {α β γ δ : Type} {r : Rep α} {s : Rep β} {t : Rep γ} {u : Rep δ} [d : XDat r] [e : XDat s] [f : XDat t] [g : XDat u] : XDat (z4 r s t u) := ⟨fun x => .tuple [d.enc x.1, e.enc x.2.1, f.enc x.2.2.1, g.enc x.2.2.2], max (max d.dep e.dep) (max f.dep g.dep) + 1, fun ⟨a, v1, v2, v3, v4, h1, h2, h3, h4, h5, h6⟩ => by
  have := (d.xd h3).2
  have := (e.xd h4).2
  have := (f.xd h5).2
  have := (g.xd h6).2
  simp only [xp, xpAll, PyData.depth, PyData.depthAll]
  exact ⟨⟨a, _, h1, h2, by show 4 ≤ big; decide, _, _, rfl, (d.xd h3).1, _, _, rfl, (e.xd h4).1, _, _, rfl, (f.xd h5).1, _, _, rfl, (g.xd h6).1, rfl⟩, by omega⟩⟩
instance {α β : Type} {r : Rep α} {s : Rep β} [d : XDat r] [e : XDat s] : XDat (zLp r s) := ⟨fun x => .list [d.enc x.1, e.enc x.2], max d.dep e.dep + 1, fun ⟨a, u, w, h1, h2, h3, h4⟩ => by
  have := (d.xd h3).2
  have := (e.xd h4).2
  simp only [xp, xpAll, PyData.depth, PyData.depthAll]
  exact ⟨⟨a, _, h1, h2, by show 2 ≤ big; decide, _, _, rfl, (d.xd h3).1, _, _, rfl, (e.xd h4).1, rfl⟩, by omega⟩⟩
instance {α β γ : Type} {r : Rep α} {s : Rep β} {t : Rep γ} [d : XDat r] [e : XDat s] [f : XDat t] : XDat (zL3 r s t) := ⟨fun x => .list [d.enc x.1, e.enc x.2.1, f.enc x.2.2], max d.dep (max e.dep f.dep) + 1, fun ⟨a, u, w, z, h1, h2, h3, h4, h5⟩ => by
  have := (d.xd h3).2
  have := (e.xd h4).2
  have := (f.xd h5).2
  simp only [xp, xpAll, PyData.depth, PyData.depthAll]
  exact ⟨⟨a, _, h1, h2, by show 3 ≤ big; decide, _, _, rfl, (d.xd h3).1, _, _, rfl, (e.xd h4).1, _, _, rfl, (f.xd h5).1, rfl⟩, by omega⟩⟩
instance {α : Type} {r : Rep α} [d : XDat r] : XDat (yO r) := ⟨fun o => match o with | none => .none | some x => d.enc x, d.dep, fun {F v x} h => by
  cases x with
  | none => simp only [xp, PyData.depth]; exact ⟨h, Nat.zero_le _⟩
  | some y => exact d.xd h⟩
/-! what data is -/
theorem le_XT {x : PyData} {ds : List PyData} (e : x = .tuple ds) : (iz yX x).Le (iz (yT yX) ds) := fun F v h => by
  subst e
  obtain ⟨h, hd⟩ := h
  simp only [xp] at h
  simp only [PyData.depth] at hd
  obtain ⟨a, vs, h1, h2, h3, h4⟩ := h
  exact ⟨⟨a, vs, h1, h2, xpAll_pvs h4 fun d hm => depth_mem (n := 60) (by omega) hm⟩, h3⟩
theorem le_XL {x : PyData} {ds : List PyData} (e : x = .list ds) : (iz yX x).Le (iz (yL yX) ds) := fun F v h => by
  subst e
  obtain ⟨h, hd⟩ := h
  simp only [xp] at h
  simp only [PyData.depth] at hd
  obtain ⟨a, vs, h1, h2, h3, h4⟩ := h
  exact ⟨⟨a, vs, h1, h2, xpAll_pvs h4 fun d hm => depth_mem (n := 60) (by omega) hm⟩, h3⟩
theorem le_XS {x : PyData} {z : Str} (e : x = .str z) : (iz yX x).Le (iz yS z) := fun F v h => by
  subst e
  have h : xp F (.str z) v := h.1
  simp only [xp] at h
  exact ⟨⟨h.1, h.2.1⟩, h.2.2⟩
theorem le_XI {x : PyData} {n : Int} (e : x = .int n) : (iz yX x).Le (iz zI n) := fun F v h => by
  subst e
  have h : xp F (.int n) v := h.1
  simp only [xp] at h
  exact h
theorem pvs_enc {α : Type} {r : Rep α} {f : α → PyData} (hf : ∀ F v x, yX.p F v (f x) → r.p F v x) : ∀ {xs : List α} {vs : List V}, PVs yX F vs (xs.map f) → PVs r F vs xs
  | [], _, h => by cases h; exact .nil
  | x :: xs, _, h => by
    cases h with
    | cons a b => exact .cons (hf _ _ _ a) (pvs_enc hf b)
theorem le_XLS {x : PyData} {zs : List Str} (e : x = .list (zs.map PyData.str)) : (iz yX x).Le (iz (yL yS) zs) := fun F v h => by
  obtain ⟨⟨a, vs, h1, h2, h3⟩, h4⟩ := le_XL e F v h
  rw [List.length_map] at h4
  exact ⟨⟨a, vs, h1, h2, pvs_enc (fun F v x h => le_XS rfl F v h) h3⟩, h4⟩
theorem le_XTI {x : PyData} {zs : List Int} (e : x = .tuple (zs.map PyData.int)) : (iz yX x).Le (iz (yT zI) zs) := fun F v h => by
  obtain ⟨⟨a, vs, h1, h2, h3⟩, h4⟩ := le_XT e F v h
  rw [List.length_map] at h4
  exact ⟨⟨a, vs, h1, h2, pvs_enc (fun F v x h => le_XI rfl F v h) h3⟩, h4⟩
mutual
theorem xp_dp {Kf : PySem.W.Frag} : ∀ (d : PyData) (v : V), xp F d v → Dp Kf F v d ∧ nb d = true
  | .none, _, h => by simp only [xp] at h; subst h; exact ⟨.non, rfl⟩
  | .int _, _, h => by simp only [xp] at h; subst h; exact ⟨.int _, rfl⟩
  | .str _, _, h => by
    simp only [xp] at h
    obtain ⟨rfl, h2, _⟩ := h
    exact ⟨.str _, h2.ok⟩
  | .bool _, _, h => by simp only [xp] at h
  | .dict _, _, h => by simp only [xp] at h
  | .list ds, _, h => by
    simp only [xp] at h
    obtain ⟨a, vs, rfl, h2, _, h4⟩ := h
    obtain ⟨g1, g2⟩ := xpAll_dp (Kf := Kf) ds vs h4
    exact ⟨.lst (SqL.of h2) g1, g2⟩
  | .tuple ds, _, h => by
    simp only [xp] at h
    obtain ⟨a, vs, rfl, h2, _, h4⟩ := h
    obtain ⟨g1, g2⟩ := xpAll_dp (Kf := Kf) ds vs h4
    exact ⟨.tup (SqT.of h2) g1, g2⟩
theorem xpAll_dp {Kf : PySem.W.Frag} : ∀ (ds : List PyData) (vs : List V), xpAll F ds vs → DpAll Kf F vs ds ∧ nbAll ds = true
  | [], _, h => by simp only [xpAll] at h; subst h; exact ⟨.nil, rfl⟩
  | d :: ds, _, h => by
    simp only [xpAll] at h
    obtain ⟨v, r, rfl, h2, h3⟩ := h
    obtain ⟨g1, g2⟩ := xp_dp (Kf := Kf) d v h2
    obtain ⟨g3, g4⟩ := xpAll_dp (Kf := Kf) ds r h3
    exact ⟨.cons g1 g3, by show (nb d && nbAll ds) = true; rw [g2, g4]; rfl⟩
end
open Classical in
noncomputable def xeq (x y : PyData) : Bool := decide (x = y)
theorem xeq_t {x y : PyData} : xeq x y = true ↔ x = y := by simp [xeq]
theorem xeq_eqv {x y : PyData} (hx : nb x = true) (hy : nb y = true) : PyData.eqv x y = xeq x y := by
  have h := eqv_nb x y hx hy
  cases e : PyData.eqv x y with
  | true => exact (xeq_t.mpr (h.mp e)).symm
  | false =>
    cases e2 : xeq x y with
    | true => rw [h.mpr (xeq_t.mp e2)] at e; cases e
    | false => rfl
/-- == of data of one kind -/
theorem oy_eqX {Kf : PySem.W.Frag} {α : Type} {r : Rep α} [d : XDat r] {x y : α} (hd : d.dep ≤ 64) (k : K (iz zB (xeq (d.enc x) (d.enc y))) Θ) : Ops fr Θ (rEqD Kf) (iz r x) (iz r y) K := fun F H v w ok hv hw Q q => by
  obtain ⟨a0, a3⟩ := d.xd hv
  obtain ⟨b0, b3⟩ := d.xd hw
  obtain ⟨a1, a2⟩ := xp_dp (Kf := Kf) _ v a0
  obtain ⟨b1, b2⟩ := xp_dp (Kf := Kf) _ w b0
  exact ⟨_, _, a1.up ok.fh, b1.up ok.fh, shaped_of a2 (Nat.le_trans a3 hd), shaped_of b2 (Nat.le_trans b3 hd), by rw [xeq_eqv a2 b2]; exact q.go k ok rfl⟩
theorem oy_neX {Kf : PySem.W.Frag} {α : Type} {r : Rep α} [d : XDat r] {x y : α} (hd : d.dep ≤ 64) (k : K (iz zB (!xeq (d.enc x) (d.enc y))) Θ) : Ops fr Θ (rNeD Kf) (iz r x) (iz r y) K := fun F H v w ok hv hw Q q => by
  obtain ⟨a0, a3⟩ := d.xd hv
  obtain ⟨b0, b3⟩ := d.xd hw
  obtain ⟨a1, a2⟩ := xp_dp (Kf := Kf) _ v a0
  obtain ⟨b1, b2⟩ := xp_dp (Kf := Kf) _ w b0
  exact ⟨_, _, a1.up ok.fh, b1.up ok.fh, shaped_of a2 (Nat.le_trans a3 hd), shaped_of b2 (Nat.le_trans b3 hd), by rw [xeq_eqv a2 b2]; exact q.go k ok rfl⟩
/-- xs == [] -/
theorem xeq_nil {α : Type} {f : α → PyData} {xs : List α} : xeq (.list (xs.map f)) (.list (([] : List α).map f)) = xs.isEmpty := by
  cases xs with
  | nil => exact xeq_t.mpr rfl
  | cons x xs =>
    cases e : xeq (.list ((x :: xs).map f)) (.list (([] : List α).map f)) with
    | false => rfl
    | true => exact absurd (PyData.list.inj (xeq_t.mp e)) (by simp)
theorem oy_eqE {Kf : PySem.W.Frag} {α : Type} {r : Rep α} [d : XDat r] {xs : List α} (hd : d.dep ≤ 60) (k : K (iz zB xs.isEmpty) Θ) : Ops fr Θ (rEqD Kf) (iz (yL r) xs) (iz (yL r) []) K := oy_eqX (r := yL r) (show d.dep + 1 ≤ 64 by omega) (by
  rw [show xeq (XDat.enc (yL r) xs) (XDat.enc (yL r) []) = xs.isEmpty from xeq_nil]
  exact k)
theorem oy_neE {Kf : PySem.W.Frag} {α : Type} {r : Rep α} [d : XDat r] {xs : List α} (hd : d.dep ≤ 60) (k : K (iz zB (!xs.isEmpty)) Θ) : Ops fr Θ (rNeD Kf) (iz (yL r) xs) (iz (yL r) []) K := oy_neX (r := yL r) (show d.dep + 1 ≤ 64 by omega) (by
  rw [show xeq (XDat.enc (yL r) xs) (XDat.enc (yL r) []) = xs.isEmpty from xeq_nil]
  exact k)
/-- papers: data that is a tuple -/
def pit : PyData → List PyData
  | .tuple ds => ds
  | _ => []
def yP : Rep PyData := ⟨fun F v d => (xp F d v ∧ d.depth ≤ 60) ∧ d = .tuple (pit d), fun e h => ⟨⟨xp_mono e _ _ h.1.1, h.1.2⟩, h.2⟩⟩
class PDat {α : Type} (r : Rep α) [d : XDat r] : Prop where
  t : ∀ x, d.enc x = .tuple (pit (d.enc x))
instance {α : Type} {r : Rep α} [XDat r] : PDat (z1 r) := ⟨fun _ => rfl⟩
instance {α : Type} {r : Rep α} [XDat r] : PDat (yT r) := ⟨fun _ => rfl⟩
instance {α β : Type} {r : Rep α} {s : Rep β} [XDat r] [XDat s] : PDat (z2 r s) := ⟨fun _ => rfl⟩
instance {α β γ : Type} {r : Rep α} {s : Rep β} {t : Rep γ} [XDat r] [XDat s] [XDat t] : PDat (z3 r s t) := ⟨fun _ => rfl⟩
instance {α β γ δ : Type} {r : Rep α} {s : Rep β} {t : Rep γ} {u : Rep δ} [XDat r] [XDat s] [XDat t] [XDat u] : PDat (z4 r s t u) := ⟨fun _ => rfl⟩
theorem le_P {α : Type} {r : Rep α} [d : XDat r] [p : PDat r] {x : α} (h : d.dep ≤ 60 := by decide) : (iz r x).Le (iz yP (d.enc x)) := fun F v q => ⟨⟨(d.xd q).1, Nat.le_trans (d.xd q).2 h⟩, p.t x⟩
theorem le_PX {x : PyData} : (iz yP x).Le (iz yX x) := fun F v h => h.1
theorem le_PT {x : PyData} : (iz yP x).Le (iz (yT yX) (pit x)) := fun F v h => le_XT h.2 F v h.1
instance : XDat yP := ⟨id, 60, fun h => h.1⟩
instance : NotNon yP := ⟨fun F v x h q => by
  obtain ⟨⟨a, vs, h1, _⟩, _⟩ := le_PT F v h
  rw [q] at h1
  cases h1⟩
theorem sp_P {x : PyData} : SeqY fr Θ (iz yP x) yX (pit x) := ⟨fun F H v ok h => sy_T.1 F H v ok (le_PT F v h), fun F H v ok h => sy_T.2 F H v ok (le_PT F v h)⟩
theorem oy_ixP {Kf : PySem.W.Frag} {x y : PyData} {n : Int} (e : atI (pit x) n = some y) (k : K (iz yX y) Θ) : Ops fr Θ (rIxT Kf) (iz yP x) (iz zI n) K := (oy_ixT e k).le le_PT (Vp.Le.refl _)
theorem ty_P {Kf : PySem.W.Frag} {x : PyData} : TyP fr Θ Kf (iz yP x) (.type "tuple") := fun F H v ok h => ty_yT F H v ok (le_PT F v h)
theorem ty_O {Kf : PySem.W.Frag} {α : Type} {r : Rep α} {o : Option α} (h : o = none) : TyP fr Θ Kf (iz (yO r) o) (.type "NoneType") := fun F H v ok hv => by
  subst h
  exact ty_N F H v ok hv
theorem ty_X {Kf : PySem.W.Frag} {x : PyData} {ds : List PyData} (e : x = .tuple ds) : TyP fr Θ Kf (iz yX x) (.type "tuple") := fun F H v ok h => ty_yT F H v ok (le_XT e F v h)
theorem ty_XL {Kf : PySem.W.Frag} {x : PyData} {ds : List PyData} (e : x = .list ds) : TyP fr Θ Kf (iz yX x) (.type "list") := fun F H v ok h => ty_yL F H v ok (le_XL e F v h)
end
end L2

set_option Elab.async false
set_option linter.all false
set_option maxRecDepth 100000
set_option maxHeartbeats 4000000
/-! New instances by what __init__ computes. -/
namespace L2
open PySem PySem.Spec PyProof.Rows PySem.HErr
section
variable {fr fr' : Fr} {Γ Γ' : Gam} {Θ Θ' : List Cel} {F F' H H' : Hp} {K : Vp → List Cel → Prop} {Qv : VK}
def MkPr (fr : Fr) (Γ : Gam) (Θ : List Cel) (pre : Pre) (E : L2.St → XK) (ps : List Vp) (K : Vp → List Cel → Prop) : Prop := ∃ out err, pre ps out err ∧ (∀ p, out p → K p Θ) ∧ ∀ e, err e → Kr fr Γ Θ (fun cls d σ H => E σ cls d H) e
theorem we_mkP {C : Addr} {pre : Pre} {E : L2.St → XK} {t : TA} (w : Wa fr Γ Θ t fun ps Θ1 => MkPr fr Γ Θ1 pre E ps K) : We fr Γ Θ (tMkD C (spI C pre) E t) K := we_mk w
theorem mkW {α β : Type} {ef : HE → Er} {args : α → List Vp} {r : Rep β} {m : α → DM β} {E : L2.St → XK} {ps : List Vp} {Q : β → Prop} {X : HE → Prop} (x : α) (h : m x Q X) (k : ∀ y, Q y → K (iz r y) Θ) (xx : ∀ z, X z → Kr fr Γ Θ (fun cls d σ H => E σ cls d H) (ef z)) (e : ps = args x := by rfl) : MkPr fr Γ Θ (preW ef args r m) E ps K :=
  ⟨_, _, ⟨x, Q, X, e, h, rfl, rfl⟩, fun p ⟨y, hy, e⟩ => by rw [e]; exact k y hy, fun er ⟨z, hz, e⟩ => by rw [e]; exact xx z hz⟩
theorem mkW0 {α β : Type} {ef : HE → Er} {args : α → List Vp} {r : Rep β} {m : α → DM β} {E : L2.St → XK} {ps : List Vp} {Q : β → Prop} (x : α) (h : m x Q noX) (k : ∀ y, Q y → K (iz r y) Θ) (e : ps = args x := by rfl) : MkPr fr Γ Θ (preW ef args r m) E ps K := mkW x h k (fun z hz => hz.elim) e
theorem mkWE {α β : Type} {ef : HE → Er} {args : α → List Vp} {r : Rep β} {m : α → DM β} {E : XK} {ps : List Vp} {Q : β → Prop} {X : HE → Prop} (hx : RseW fr E ef X) (x : α) (h : m x Q X) (k : ∀ y, Q y → K (iz r y) Θ) (e : ps = args x := by rfl) : MkPr fr Γ Θ (preW ef args r m) (fun _ => E) ps K := mkW x h k (fun z hz => hx z hz Γ Θ) e
theorem cy_isiO {Kf : PySem.W.Frag} {o : Option PyData} (k : K (iz zB o.isSome) Θ) : Cbs fr Θ (rIsi Kf) [iz (yO yP) o, zTy "tuple"] K := by
  cases o with
  | none => exact cb_isi (b := false) (ty_O (r := yP) rfl) (show kitB "NoneType" "tuple" = some false by decide +kernel) k
  | some x => exact cb_isi (p := iz yP x) (b := true) ty_P kit_tt k
end
section
variable {P : Program} {w : World} {K : PySem.W.Frag} {mg : Str → Option Value} {base : Heap} {CX : CXT} {C : Addr} {ps : List Str} {k : Nat} {sp sp' : Sp}
theorem DefI.imp (D : DefI P w K mg base CX k C ps sp) (h : ∀ vs H Q E, sp' vs H Q E → sp vs H Q E) : DefI P w K mg base CX k C ps sp' := by
  obtain ⟨f, fd, hlk, h1, h2, h3⟩ := D.ex
  exact ⟨f, fd, hlk, h1, h2, h3.imp h⟩
end
/-! rows of places, of steps -/
abbrev yPR : Rep (List (Str × Int)) := yL (z2 yS zI)
abbrev ySR : Rep (List SRow) := yL (z3 yS (yL yS) (yL yS))
def RowsB (prs : List (Str × Int)) (srs : List SRow) : Prop := (∀ r ∈ prs, r.1.length ≤ 1000) ∧ ∀ r ∈ srs, r.1.length ≤ 1000 ∧ r.2.1.length ≤ 1000 ∧ r.2.2.length ≤ 1000 ∧ (∀ y ∈ r.2.1, y.length ≤ 1000) ∧ ∀ y ∈ r.2.2, y.length ≤ 1000
def heOf : PErr → HE
  | .tooMany k l => .tooMany k l
  | .badWord w => .badWord w
  | .double n => .double n
  | .badNumber n => .badNumber n
  | .empty n => .empty n
  | .unknown n => .unknown n
def mk_Plan (prs : List (Str × Int)) (srs : List SRow) : DM PlanD := fun Q X => RowsB prs srs ∧ (planDue prs srs = none → Q (planOf prs srs)) ∧ ∀ y, planDue prs srs = some y → X (heOf y)
def ecs (cs : EK → Addr) : ECs := ⟨cs .tooMany, cs .badWord, cs .double, cs .badNumber, cs .empty, cs .unknown⟩
theorem le_PR {prs : List (Str × Int)} : (iz yPR prs).Le (iz (zL (z2 zS zI)) prs) := le_LLr fun F v x _ ⟨a, u, w, h1, h2, h3, h4⟩ => ⟨a, u, w, h1, h2, h3.1, h4⟩
theorem le_SR {srs : List SRow} : (iz ySR srs).Le (iz (zL (z3 zS (zL zS) (zL zS))) srs) := le_LLr fun F v x _ ⟨a, u, w, z, h1, h2, h3, h4, h5⟩ => ⟨a, u, w, z, h1, h2, h3.1, le_LLr (r := yS) (s := zS) (fun F v x _ h => h.1) F w h4, le_LLr (r := yS) (s := zS) (fun F v x _ h => h.1) F z h5⟩
/-- the strings of an error that is due stand in the rows -/
def strE : PErr → Option Str
  | .tooMany _ _ => none
  | .badWord w => some w
  | .double n => some n
  | .badNumber _ => none
  | .empty n => some n
  | .unknown n => some n
theorem chk_str {ks seen ws : List Str} {x : Bool × Str} (h : chk ks seen ws = some x) : x.2 ∈ ws := chk_mem (n := x.2) (b := x.1) (by rw [h])
theorem placesDue_str {e : PErr} {z : Str} : ∀ {seen : List Str} {prs : List (Str × Int)}, placesDue seen prs = some e → strE e = some z → ∃ r ∈ prs, r.1 = z
  | _, [], h, _ => by cases h
  | seen, (w, n) :: r, h, hz => by
    rw [placesDue_cons] at h
    split at h
    · split at h
      · cases h; cases hz; exact ⟨_, List.mem_cons_self .., rfl⟩
      · split at h
        · obtain ⟨q, hq, e⟩ := placesDue_str h hz
          exact ⟨q, List.mem_cons_of_mem _ hq, e⟩
        · cases h; cases hz
    · cases h; cases hz; exact ⟨_, List.mem_cons_self .., rfl⟩
theorem nameErr_str {x : Bool × Str} : strE (nameErr x) = some x.2 := by
  obtain ⟨b, n⟩ := x
  cases b <;> rfl
theorem stepDue_str {ps seen : List Str} {s : SRow} {e : PErr} {z : Str} (h : stepDue ps seen s = some e) (hz : strE e = some z) : z = s.1 ∨ z ∈ s.2.1 ∨ z ∈ s.2.2 := by
  unfold stepDue at h
  split at h
  · split at h
    · cases h; cases hz; exact .inl rfl
    · split at h
      · cases h; cases hz; exact .inl rfl
      · split at h
        · rename_i x hx
          cases h
          rw [nameErr_str] at hz
          cases hz
          exact .inr (.inl (chk_str hx))
        · obtain ⟨x, hx, e2⟩ := Option.map_eq_some_iff.mp h
          subst e2
          rw [nameErr_str] at hz
          cases hz
          exact .inr (.inr (chk_str hx))
  · cases h; cases hz; exact .inl rfl
theorem stepsDue_str {ps : List Str} {e : PErr} {z : Str} : ∀ {seen : List Str} {srs : List SRow}, stepsDue ps seen srs = some e → strE e = some z → ∃ s ∈ srs, z = s.1 ∨ z ∈ s.2.1 ∨ z ∈ s.2.2
  | _, [], h, _ => by cases h
  | seen, s :: r, h, hz => by
    rw [stepsDue_cons] at h
    split at h
    · rename_i e2 he
      cases h
      exact ⟨s, List.mem_cons_self .., stepDue_str he hz⟩
    · obtain ⟨q, hq, h2⟩ := stepsDue_str h hz
      exact ⟨q, List.mem_cons_of_mem _ hq, h2⟩
theorem due_str {prs : List (Str × Int)} {srs : List SRow} {e : PErr} {z : Str} (hb : RowsB prs srs) (h : planDue prs srs = some e) (hz : strE e = some z) : z.length ≤ 1000 := by
  unfold planDue at h
  split at h
  · cases h; cases hz
  · split at h
    · cases h; cases hz
    · split at h
      · rename_i e2 he
        cases h
        obtain ⟨r, hr, e3⟩ := placesDue_str he hz
        rw [← e3]
        exact hb.1 r hr
      · obtain ⟨s, hs, h2⟩ := stepsDue_str h hz
        obtain ⟨b1, b2, b3, b4, b5⟩ := hb.2 s hs
        rcases h2 with h2 | h2 | h2
        · rw [h2]; exact b1
        · exact b4 z h2
        · exact b5 z h2
end L2

set_option Elab.async false
set_option linter.all false
set_option maxRecDepth 100000
set_option maxHeartbeats 4000000
/-! Texts, bools, mixed lists. -/
namespace L2
open PySem PySem.Spec PyProof.Rows PySem.HErr
section
variable {X : Cx} {K : PySem.W.Frag} {pos : Pos}
theorem kpg_lst {es : List Expr} {k : Nat} {t : TGs} {n : Nat} (hc : X.calm = true) (h : PGs X es t) (hn : (assignEach es X.env).length = n := by rfl) (hst : (assignEach es X.env).findIdx? (·.1) = none := by rfl) (hK : X.K = K := by rfl) : PG X (.Tuple es k pos) (gLst K n t) := hK ▸ pg_lst hc h hn hst
theorem kpg_tup {es : List Expr} {k : Nat} {t : TGs} {n : Nat} (hc : X.calm = true) (h : PGs X es t) (hn : (assignEach es X.env).length = n := by rfl) (hst : (assignEach es X.env).findIdx? (·.1) = none := by rfl) (hK : X.K = K := by rfl) : PG X (.Tuple es k pos) (gTup K n t) := hK ▸ pg_tup hc h hn hst
end
section
variable {fr fr' : Fr} {Γ Γ' : Gam} {Θ Θ' : List Cel} {F F' H H' : Hp} {K : Vp → List Cel → Prop} {Qv : VK}
theorem oy_isB {a b : Bool} (k : K (iz zB (decide (a = b))) Θ) : Ops fr Θ (fun x y H Q => ∃ a b, x = .bl a ∧ y = .bl b ∧ Q (.bl (decide (a = b))) H) (iz zB a) (iz zB b) K := fun F H v w ok hv hw Q q => ⟨a, b, hv, hw, q.go k ok rfl⟩
theorem oy_notB {a b : Bool} (k : K (iz zB (!decide (a = b))) Θ) : Ops fr Θ (fun x y H Q => ∃ a b, x = .bl a ∧ y = .bl b ∧ Q (.bl (!decide (a = b))) H) (iz zB a) (iz zB b) K := fun F H v w ok hv hw Q q => ⟨a, b, hv, hw, q.go k ok rfl⟩
/-- a list of things, as a list of data -/
theorem le_LX {α : Type} {r : Rep α} [d : XDat r] {xs : List α} (h : d.dep ≤ 60 := by decide) : (iz (yL r) xs).Le (iz (yL yX) (xs.map d.enc)) := fun F v ⟨⟨a, vs, h1, h2, h3⟩, h4⟩ => by
  have h5 : PVs yX F vs (xs.map d.enc) := by
    clear h1 h2 h4
    have : ∀ {vs : List V} {xs : List α}, PVs r F vs xs → PVs yX F vs (xs.map d.enc) := fun {vs xs} q => by
      induction q with
      | nil => exact .nil
      | cons a _ ih => exact .cons (le_X h F _ a) ih
    exact this h3
  exact ⟨⟨a, vs, h1, h2, h5⟩, by rw [List.length_map]; exact h4⟩
theorem le_LP {α : Type} {r : Rep α} [d : XDat r] [p : PDat r] {xs : List α} (h : d.dep ≤ 60 := by decide) : (iz (yL r) xs).Le (iz (yL yP) (xs.map d.enc)) := fun F v ⟨⟨a, vs, h1, h2, h3⟩, h4⟩ => by
  have h5 : PVs yP F vs (xs.map d.enc) := by
    clear h1 h2 h4
    have : ∀ {vs : List V} {xs : List α}, PVs r F vs xs → PVs yP F vs (xs.map d.enc) := fun {vs xs} q => by
      induction q with
      | nil => exact .nil
      | cons a _ ih => exact .cons (le_P h F _ a) ih
    exact this h3
  exact ⟨⟨a, vs, h1, h2, h5⟩, by rw [List.length_map]; exact h4⟩
theorem joinL_len (S : List Nat) : ∀ parts : List (List Nat), (TL.joinL S parts).length ≤ (parts.map List.length).sum + parts.length * S.length
  | [] => by simp [TL.joinL]
  | [p] => by
    show p.length ≤ _
    simp
  | p :: q :: r => by
    have := joinL_len S (q :: r)
    show (p ++ (S ++ TL.joinL S (q :: r))).length ≤ _
    rw [List.length_append, List.length_append, List.map_cons, List.sum_cons, List.length_cons, Nat.succ_mul]
    omega
theorem joinL_mem (S : List Nat) (c : Nat) : ∀ parts : List (List Nat), c ∈ TL.joinL S parts → c ∈ S ∨ ∃ p ∈ parts, c ∈ p
  | [], h => by cases h
  | [p], h => .inr ⟨p, List.mem_cons_self .., h⟩
  | p :: q :: r, h => by
    rcases List.mem_append.mp h with h | h
    · exact .inr ⟨p, List.mem_cons_self .., h⟩
    · rcases List.mem_append.mp h with h | h
      · exact .inl h
      · rcases joinL_mem S c (q :: r) h with h | ⟨p, hp, h⟩
        · exact .inl h
        · exact .inr ⟨p, List.mem_cons_of_mem _ hp, h⟩
theorem join_cps (y : Str) (parts : List Str) : (Txt.join y parts).cps.toList = TL.joinL y.cps.toList (parts.map fun p => p.cps.toList) := by
  have := TL.tl_join y parts
  rw [← TL.join_eq] at this
  exact this
theorem join_len (y : Str) (parts : List Str) : (Txt.join y parts).length ≤ (parts.map (·.length)).sum + parts.length * y.length := by
  show (Txt.join y parts).cps.toList.length ≤ _
  rw [join_cps]
  have := joinL_len y.cps.toList (parts.map fun p => p.cps.toList)
  rw [List.length_map, List.map_map] at this
  exact this
theorem join_asc {y : Str} {parts : List Str} (hy : Asc y) (hp : ∀ p ∈ parts, Asc p) : Asc (Txt.join y parts) := fun c hc => by
  rw [join_cps] at hc
  rcases joinL_mem _ _ _ hc with h | ⟨p, h1, h2⟩
  · exact hy c h
  · obtain ⟨q, hq, rfl⟩ := List.mem_map.mp h1
    exact hp q hq c h2
theorem tyl_yS {x : Str} {Kf : PySem.W.Frag} : ∀ F H v, OkF fr Θ F H → (iz yS x).p F v → tyV Kf "str" v H := fun F H v ok h => tyl_S F H v ok h.1
theorem my_join {Kf : PySem.W.Frag} {xs : List Str} {x : Str} (hs : (xs.map (·.length)).sum + xs.length * x.length ≤ big) (k : K (iz yS (Txt.join x xs)) Θ) : Mts fr Θ (fun x xs H Q => ∃ a p, ∃ ys : List Str, x = .str a ∧ xs = [.ref p] ∧ (SqL Kf H p (ys.map V.str) ∨ SqT Kf H p (ys.map V.str)) ∧
    (ys.map (·.length)).sum + ys.length * a.length ≤ 16777216 ∧ Q (.str (Txt.join a ys)) H) (iz yS x) [iz (yL yS) xs] K := fun F H v vs ok hv hps Q q => by
  cases hps with
  | cons h1 hp => cases hp with
    | nil =>
      obtain ⟨⟨a, us, rfl, h2, h3⟩, _⟩ := h1
      have h4 : PVs zS F us xs := Paired.imp2 (fun _ _ h => h.1) h3
      obtain ⟨rfl, hA⟩ := pvs_S h4
      obtain ⟨⟨rfl, hx⟩, _⟩ := hv
      exact ⟨x, a, xs, rfl, rfl, .inl (SqL.of (ok.fh _ _ h2)), Nat.le_trans hs (by decide), q.go k ok ⟨⟨rfl, join_asc hx hA⟩, Nat.le_trans (join_len x xs) hs⟩⟩
end
end L2

set_option Elab.async false
set_option linter.all false
set_option maxRecDepth 100000
set_option maxHeartbeats 4000000
/-! Plain Lean about what defs compute. -/
namespace L2
open PySem PySem.Spec PyProof.Rows PySem.HErr
section
variable {α β S : Type}
theorem forD_inv {body : α → S → (S → Prop) → (S → Prop) → Prop} {after : S → Prop} {xs : List α} {s : S} (I : List α → S → Prop) (h0 : I [] s)
    (hs : ∀ pre x post s nx, xs = pre ++ x :: post → I pre s → (∀ s', I (pre ++ [x]) s' → nx s') → body x s nx after) (hd : ∀ s, I xs s → after s) : forD xs s body after := by
  have key : ∀ (post pre : List α) (s : S), xs = pre ++ post → I pre s → forD post s body after := by
    intro post
    induction post with
    | nil =>
      intro pre s e h
      rw [List.append_nil] at e
      subst e
      exact hd s h
    | cons x post ih =>
      intro pre s e h
      exact hs pre x post s _ e h fun s' h' => ih (pre ++ [x]) s' (by rw [e]; simp) h'
  exact key xs [] s rfl h0
/-- a loop that folds -/
theorem forD_ok {body : α → S → (S → Prop) → (S → Prop) → Prop} {after : S → Prop} (step : S → α → S) : ∀ {xs : List α} {s : S}, (∀ x ∈ xs, ∀ s nx, nx (step s x) → body x s nx after) → after (xs.foldl step s) → forD xs s body after
  | [], _, _, h => h
  | x :: xs, s, hb, h => hb x (List.mem_cons_self ..) s _ (forD_ok step (fun y hy => hb y (List.mem_cons_of_mem _ hy)) h)
/-- a loop that looks for the first -/
theorem forD_find {body : α → S → (S → Prop) → (S → Prop) → Prop} {after : S → Prop} {s : S} {p : α → Bool} {E : α → Prop} : ∀ {xs : List α}, (∀ x ∈ xs, ∀ nx, (p x = true → E x) → (p x = false → nx s) → body x s nx after) → (∀ x, xs.find? p = some x → E x) → (xs.find? p = none → after s) → forD xs s body after
  | [], _, _, h => h rfl
  | x :: xs, hb, hf, hn => by
    refine hb x (List.mem_cons_self ..) _ (fun h => hf x ?_) fun h => forD_find (fun y hy => hb y (List.mem_cons_of_mem _ hy)) (fun y hy => hf y ?_) (fun h2 => hn ?_)
    · rw [List.find?_cons, h]
    · rw [List.find?_cons, h]; exact hy
    · rw [List.find?_cons, h]; exact h2
/-- a loop that lets all pass -/
theorem forD_all {body : α → S → (S → Prop) → (S → Prop) → Prop} {after : S → Prop} {s : S} : ∀ {xs : List α}, (∀ x ∈ xs, ∀ nx, nx s → body x s nx after) → after s → forD xs s body after
  | [], _, h => h
  | x :: xs, hb, h => hb x (List.mem_cons_self ..) _ (forD_all (fun y hy => hb y (List.mem_cons_of_mem _ hy)) h)
theorem whileD_inv {step : S → (S → Prop) → (S → Prop) → Prop} {after : S → Prop} {s : S} (I : S → Prop) (μ : S → Nat) (h0 : I s) (hs : ∀ s nx, I s → (∀ s', I s' → μ s' < μ s → nx s') → step s nx after) : whileD s step after := by
  have key : ∀ (n : Nat) (s : S), I s → μ s < n → whileN n s step after := by
    intro n
    induction n with
    | zero => intro s _ h; omega
    | succ n ih => intro s h hm; exact hs s _ h fun s' h' hl => ih s' h' (by omega)
  exact ⟨_, key (μ s + 1) s h0 (Nat.lt_succ_self _)⟩
theorem mapD_ok {f : α → (β → Prop) → Prop} {k : List β → Prop} (g : α → β) : ∀ {xs : List α} {acc : List β}, (∀ x ∈ xs, ∀ k, k (g x) → f x k) → k (acc ++ xs.map g) → mapD xs acc f k
  | [], acc, _, h => by simpa [mapD] using h
  | x :: xs, acc, hf, h => hf x (List.mem_cons_self ..) _ (mapD_ok g (fun y hy => hf y (List.mem_cons_of_mem _ hy)) (by simpa using h))
theorem mapD_inv {f : α → (β → Prop) → Prop} {k : List β → Prop} (R : α → β → Prop) : ∀ {xs : List α} {acc : List β}, (∀ x ∈ xs, ∀ k, (∀ y, R x y → k y) → f x k) → (∀ ys, Paired R xs ys → k (acc ++ ys)) → mapD xs acc f k
  | [], acc, _, h => by simpa [mapD] using h [] .nil
  | x :: xs, acc, hf, h => hf x (List.mem_cons_self ..) _ fun y hy => mapD_inv R (fun z hz => hf z (List.mem_cons_of_mem _ hz)) fun ys hys => by
    have := h (y :: ys) (.cons hy hys)
    simpa using this
theorem compD_ok {f : α → (Option β → Prop) → Prop} {k : List β → Prop} (pr : α → Bool) (g : α → β) : ∀ {xs : List α} {acc : List β}, (∀ x ∈ xs, ∀ k, k (if pr x = true then some (g x) else none) → f x k) → k (acc ++ (xs.filter pr).map g) → compD xs acc f k
  | [], acc, _, h => by simpa [compD] using h
  | x :: xs, acc, hf, h => hf x (List.mem_cons_self ..) _ (compD_ok pr g (fun y hy => hf y (List.mem_cons_of_mem _ hy)) (by
    rw [List.filter_cons] at h
    cases e : pr x with
    | true => rw [if_pos e] at h; simpa [e] using h
    | false => rw [if_neg (by rw [e]; exact Bool.false_ne_true)] at h; simpa [e] using h))
/-- a loop that lays by -/
theorem forD_push {T : Type} {body : α → List T → (List T → Prop) → (List T → Prop) → Prop} {after : List T → Prop} (f : α → T) {N : Nat} : ∀ {xs : List α} {s : List T}, (∀ x ∈ xs, ∀ s nx, s.length < N → nx (s ++ [f x]) → body x s nx after) → s.length + xs.length ≤ N → after (s ++ xs.map f) → forD xs s body after
  | [], s, _, _, h => by simpa [forD] using h
  | x :: xs, s, hb, hN, h => hb x (List.mem_cons_self ..) s _ (by rw [List.length_cons] at hN; omega) (forD_push f (fun y hy => hb y (List.mem_cons_of_mem _ hy)) (by rw [List.length_append]; rw [List.length_cons] at hN; show _ + 1 + _ ≤ _; omega) (by simpa using h))
theorem forD_app {T : Type} {body : α → List T → (List T → Prop) → (List T → Prop) → Prop} {after : List T → Prop} (g : α → List T) {N : Nat} : ∀ {xs : List α} {s : List T}, (∀ x ∈ xs, ∀ s nx, s.length + (g x).length ≤ N → nx (s ++ g x) → body x s nx after) → s.length + (xs.flatMap g).length ≤ N → after (s ++ xs.flatMap g) → forD xs s body after
  | [], s, _, _, h => by simpa [forD] using h
  | x :: xs, s, hb, hN, h => by
    rw [List.flatMap_cons, List.length_append] at hN
    exact hb x (List.mem_cons_self ..) s _ (by omega) (forD_app g (fun y hy => hb y (List.mem_cons_of_mem _ hy)) (by rw [List.length_append]; omega) (by simpa using h))
theorem mapD_map {γ : Type} {g : γ → α} {f : α → (β → Prop) → Prop} {k : List β → Prop} : ∀ {xs : List γ} {acc : List β}, mapD (xs.map g) acc f k = mapD xs acc (fun x => f (g x)) k
  | [], _ => rfl
  | x :: xs, acc => by
    show (f (g x) fun y => mapD (xs.map g) (acc ++ [y]) f k) = f (g x) fun y => mapD xs (acc ++ [y]) _ k
    congr 1
    funext y
    exact mapD_map
theorem compD_map {γ : Type} {g : γ → α} {f : α → (Option β → Prop) → Prop} {k : List β → Prop} : ∀ {xs : List γ} {acc : List β}, compD (xs.map g) acc f k = compD xs acc (fun x => f (g x)) k
  | [], _ => rfl
  | x :: xs, acc => by
    show (f (g x) fun y => compD (xs.map g) (acc ++ y.toList) f k) = f (g x) fun y => compD xs (acc ++ y.toList) _ k
    congr 1
    funext y
    exact compD_map
theorem forD_map {γ : Type} {g : γ → α} {body : α → S → (S → Prop) → (S → Prop) → Prop} {after : S → Prop} : ∀ {xs : List γ} {s : S}, forD (xs.map g) s body after = forD xs s (fun x => body (g x)) after
  | [], _ => rfl
  | x :: xs, s => by
    show body (g x) s (fun s' => forD (xs.map g) s' body after) after = body (g x) s (fun s' => forD xs s' _ after) after
    congr 1
    funext s'
    exact forD_map
theorem ifD_t {c : Bool} {A B : Prop} (e : c = true) (h : A) : ifD c A B := ⟨fun _ => h, fun f => by rw [e] at f; cases f⟩
theorem ifD_f {c : Bool} {A B : Prop} (e : c = false) (h : B) : ifD c A B := ⟨(fun f => by rw [e] at f; cases f), fun _ => h⟩
theorem andD_ok {b c : Bool} {f : (Bool → Prop) → Prop} {k : Bool → Prop} (hf : b = true → ∀ k, k c → f k) (h : k (b && c)) : andD b f k := by
  cases b with
  | true => exact ⟨fun _ => hf rfl _ h, (fun e => nomatch e)⟩
  | false => exact ⟨(fun e => nomatch e), fun _ => h⟩
theorem orD_ok {b c : Bool} {f : (Bool → Prop) → Prop} {k : Bool → Prop} (hf : b = false → ∀ k, k c → f k) (h : k (b || c)) : orD b f k := by
  cases b with
  | true => exact ⟨fun _ => h, (fun e => nomatch e)⟩
  | false => exact ⟨(fun e => nomatch e), fun _ => hf rfl _ h⟩
end
/-! texts -/
theorem join0_cps (ws : List Str) : (Txt.join "" ws).cps.toList = (ws.map fun w => w.cps.toList).flatten := by
  rw [join_cps]
  show TL.joinL [] _ = _
  have : ∀ l : List (List Nat), TL.joinL [] l = l.flatten := fun l => by
    induction l with
    | nil => rfl
    | cons a l ih =>
      cases l with
      | nil => simp [TL.joinL]
      | cons b l =>
        show a ++ ([] ++ TL.joinL [] (b :: l)) = _
        rw [ih]
        simp
  exact this _
theorem len_join0 {ws : List Str} {y : Str} (h : y ∈ ws) : y.length ≤ (Txt.join "" ws).length := by
  show y.cps.toList.length ≤ (Txt.join "" ws).cps.toList.length
  rw [join0_cps]
  have hm : y.cps.toList ∈ ws.map fun w => w.cps.toList := List.mem_map.mpr ⟨y, h, rfl⟩
  exact (List.sublist_flatten_of_mem hm).length_le
theorem strange_not {ws : List Str} {c : Str} (hc : 0 < c.length) : c ++ Txt.join "" ws ∉ ws := fun h => by
  have h1 := len_join0 h
  have h2 : (c ++ Txt.join "" ws).length = c.length + (Txt.join "" ws).length := by
    show (c.cps ++ (Txt.join "" ws).cps : Array Nat).size = _
    rw [Array.size_append]
    rfl
  omega
theorem sum_wd {l : List Str} (h : ∀ y ∈ l, Wd y) : (l.map (·.length)).sum ≤ 12 * l.length := by
  induction l with
  | nil => exact Nat.le_refl _
  | cons y l ih =>
    have h1 := (h y (List.mem_cons_self ..)).len
    have h2 := ih fun z hz => h z (List.mem_cons_of_mem _ hz)
    rw [List.map_cons, List.sum_cons, List.length_cons]
    omega
/-! plans -/
theorem find_flat {α β γ : Type} {f : α → List β} {g : β → Option γ} : ∀ {l : List α}, (l.flatMap f).findSome? g = l.findSome? fun x => (f x).findSome? g
  | [] => rfl
  | a :: l => by
    rw [List.flatMap_cons, List.findSome?_append, List.findSome?_cons, find_flat (l := l)]
    cases (f a).findSome? g <;> rfl
theorem atI_0 {α : Type} {x : α} {xs : List α} : atI (x :: xs) 0 = some x := atI_nat (j := 0) rfl
theorem mem_intsF0 {n : Int} {k : Int} (h : k ∈ intsF 0 n.toNat) : ∃ j : Nat, (j : Int) < n ∧ k = j := by
  obtain ⟨j, hj, e⟩ := mem_intsF h
  exact ⟨j, by omega, e⟩
end L2

set_option Elab.async false
set_option linter.all false
set_option maxRecDepth 100000
set_option maxHeartbeats 4000000
/-! Boxes of draws of other forms. -/
namespace L2
open PySem PySem.Spec PyProof.Rows PySem.HErr
/-- the box at b: the script's copy at l, then ints -/
def cBg (b l : Addr) (ns is : List Int) : Cel := ⟨b, true, fun F o => o = .lst (.ref l :: is.map V.int) ∧ F l = some (.lst (ns.map V.int)) ∧ ns.length ≤ big, fun e ⟨h1, h2, h3⟩ => ⟨h1, e _ _ h2, h3⟩, fun h e => by subst e; simp at h⟩
def cBag (t : Nat) (b l : Addr) : Cel := ⟨b, true, fun F o => ∃ (ns is : List Int), is.length = t ∧ (∀ i, is[0]? = some i → 0 ≤ i) ∧ (cBg b l ns is).φ F o, fun e ⟨ns, is, h1, h2, h3⟩ => ⟨ns, is, h1, h2, (cBg b l ns is).mono e h3⟩, fun ⟨ns, is, _, _, h⟩ e => (cBg b l ns is).nt h e⟩
abbrev BKind := Addr → Addr → Cel
def preK (mk : BKind) (q : PreB) : PreC := fun ps Θ out err => ∃ b l qs o, ps = zAt b :: qs ∧ Θ = [mk b l] ∧ q qs o ∧ out = (fun p Θ' => o p ∧ Θ' = [mk b l]) ∧ err = fun _ _ => False
def RetKW {β : Type} (mk : BKind) (fr : Fr) (b l : Addr) (Qv : VK) (r : Rep β) (Q : β → Prop) : Prop := ∀ y, Q y → ∀ Θ, mk b l ∈ Θ → Rt fr Θ Qv (iz r y)
section
variable {mk : BKind} {fr fr' : Fr} {Γ Γ' : Gam} {Θ Θ' : List Cel} {F F' H H' : Hp} {K : Vp → List Cel → Prop} {Qv : VK}
theorem RetKW.fine {β : Type} {b l : Addr} {r : Rep β} {Q : β → Prop} (h : RetKW mk fr b l Qv r Q) (le : FrLe fr fr') : RetKW mk fr' b l Qv r Q := fun y hy Θ hc => (h y hy Θ hc).fine le
theorem sps_K {q : PreB} {E : L2.St → XK} {b l : Addr} {qs : List Vp} {o : Vp → Prop} (hc : mk b l ∈ Θ) (hq : q qs o) (k : ∀ p, o p → K p Θ) : Sps fr Γ Θ (spC (preK mk q)) E (zAt b :: qs) K := fun σ F H vs ok env hps Q kq => by
  obtain ⟨Θr, pm⟩ := perm_of_mem hc
  have ok1 := ok.perm pm
  exact ⟨F, _, [mk b l], _, _, ok1.fh, ok1.cellsAt, hps, ⟨b, l, qs, o, rfl, rfl, hq, rfl, rfl⟩, fun p Θ' ⟨ho, hΘ⟩ v F' H' ef h => by
    subst hΘ
    exact kq p Θ (k p ho) v F' H' ef.ff ((ok1.eff ef).perm pm.symm) h, fun e Θ' he => he.elim⟩
theorem sps_KW {α β : Type} {args : α → List Vp} {r : Rep β} {m : α → DM β} {E : L2.St → XK} {ps : List Vp} {Q : β → Prop} {b l : Addr} {j : Nat} (hj : Θ[j]? = some (mk b l)) (x : α) (h : m x Q noX) (k : ∀ y, Q y → K (iz r y) Θ) (e : ps = zAt b :: args x := by rfl) : Sps fr Γ Θ (spC (preK mk (preBW args r m))) E ps K := by
  subst e
  exact sps_K (List.mem_of_getElem? hj) ⟨x, Q, rfl, h, rfl⟩ fun p ⟨y, hy, e⟩ => by rw [e]; exact k y hy
/-! the box opened, closed -/
theorem OkF.recell {c c' : Cel} {j : Nat} (k : OkF fr Θ F H) (hj : Θ[j]? = some c) (ha : c'.a = c.a) (ho : c'.own = c.own) (h : ∀ o, c.φ F o → c'.φ F o) : OkF fr (Θ.set j c') F H := by
  obtain ⟨_, ⟨o, h2, h3⟩, _⟩ := k.ce c (List.mem_of_getElem? hj)
  have := k.mut (c' := c') (o := o) hj ha ho (h o h3)
  have e : upd H c.a o = H := by
    funext a
    by_cases q : a = c.a
    · rw [q, upd_same, h2]
    · rw [upd_ne q]
  rw [e] at this
  exact this
theorem kn_bag {t : Nat} {b l : Addr} {j : Nat} {P : L2.St → Hp → Prop} (hj : Θ[j]? = some (cBag t b l)) (k : ∀ (ns is : List Int), is.length = t → (∀ i, is[0]? = some i → 0 ≤ i) → Kn fr Γ (Θ.set j (cBg b l ns is)) P) : Kn fr Γ Θ P := fun σ F H ok env => by
  obtain ⟨_, ⟨o, h2, ns, is, h3, h4, h5⟩, _⟩ := ok.ce _ (List.mem_of_getElem? hj)
  obtain ⟨h6, h7, h8⟩ := h5
  subst h6
  have := ok.mut (c' := cBg b l ns is) (o := .lst (.ref l :: is.map V.int)) hj rfl rfl ⟨rfl, h7, h8⟩
  have e : upd H (cBag t b l).a (.lst (.ref l :: is.map V.int)) = H := by
    funext a
    by_cases q : a = (cBag t b l).a
    · rw [q, upd_same, h2]
    · rw [upd_ne q]
  rw [e] at this
  exact k ns is h3 h4 σ F H this env
theorem rt_bag {t : Nat} {b l : Addr} {j : Nat} {ns is : List Int} {rt : VK} {p : Vp} (hj : Θ[j]? = some (cBg b l ns is)) (h1 : is.length = t) (h2 : ∀ i, is[0]? = some i → 0 ≤ i) (k : Rt fr (Θ.set j (cBag t b l)) rt p) : Rt fr Θ rt p := fun v F H ok hv => k v F H (ok.recell hj rfl rfl fun o ho => ⟨ns, is, h1, h2, ho⟩) hv
theorem ob_ix {Kf : PySem.W.Frag} {b l : Addr} {j m : Nat} {ns is : List Int} {n : Int} {x : Int} (hj : Θ[j]? = some (cBg b l ns is)) (hn : n = (m : Int) + 1) (e : is[m]? = some x) (k : K (iz zI x) Θ) : Ops fr Θ (rIxL Kf) (zAt b) (iz zI n) K := fun F H v w ok hv hw Q q => by
  obtain ⟨_, ⟨o, h2, h3, h4, h5⟩, _⟩ := ok.ce _ (List.mem_of_getElem? hj)
  subst h3
  have hv : v = .ref b := hv
  have hw : w = .int n := hw
  subst hv hw hn
  refine ⟨b, _, _, .int x, rfl, rfl, SqL.of h2, ?_, q.go k ok rfl⟩
  rw [show ((m : Int) + 1) = ((m + 1 : Nat) : Int) by omega]
  refine atI_nat ?_
  rw [List.getElem?_cons_succ, List.getElem?_map, e]
  rfl
theorem ob_ix0 {Kf : PySem.W.Frag} {b l : Addr} {j : Nat} {ns is : List Int} (hj : Θ[j]? = some (cBg b l ns is)) (k : K (iz (yL zI) ns) Θ) : Ops fr Θ (rIxL Kf) (zAt b) (iz zI 0) K := fun F H v w ok hv hw Q q => by
  obtain ⟨_, ⟨o, h2, h3, h4, h5⟩, _⟩ := ok.ce _ (List.mem_of_getElem? hj)
  subst h3
  have hv : v = .ref b := hv
  have hw : w = .int 0 := hw
  subst hv hw
  exact ⟨b, _, _, .ref l, rfl, rfl, SqL.of h2, atI_nat (j := 0) rfl, q.go k ok ⟨⟨l, _, rfl, h4, ints_pvs⟩, h5⟩⟩
theorem kb_set {b l : Addr} {i j m : Nat} {ns is : List Int} {te ti : TE} {D : Ends} (hi : Γ[i]? = some (some (zAt b)))
    (w : We fr Γ Θ te fun p Θ1 => We fr Γ Θ1 ti fun q Θ2 => ∃ x n, p = iz zI x ∧ q = iz zI n ∧ n = (m : Int) + 1 ∧ m < is.length ∧ Θ2[j]? = some (cBg b l ns is) ∧ Kn fr Γ (Θ2.set j (cBg b l ns (is.set m x))) D.nx) : Kn fr Γ Θ (tAsg te (gSub (tVar i) ti rSetL) D) := fun σ F H ok env =>
  w σ F H ok env _ fun p Θ1 k v F1 H1 s1 ok1 hp => by
    obtain ⟨v0, h1, h2⟩ := (env.mono s1).get hi
    have h2 : v0 = .ref b := h2
    subst h2
    refine ⟨_, h1, k σ F1 H1 ok1 (env.mono s1) _ fun q Θ2 ⟨x, n, e1, e2, hn, hm, hj, k2⟩ w2 F2 H2 s2 ok2 hp2 => ?_⟩
    subst e1 e2 hn
    obtain ⟨_, ⟨o, h3, h4, h5, h6⟩, _⟩ := ok2.ce _ (List.mem_of_getElem? hj)
    subst h4
    have hp : v = .int x := hp
    subst hp
    refine ⟨b, _, _, m + 1, rfl, hp2, h3, ?_, k2 σ F2 _ (ok2.mut hj rfl rfl ⟨?_, h5, h6⟩) ((env.mono s1).mono s2)⟩
    · unfold ixN
      simp only [List.length_cons, List.length_map]
      rw [if_pos (by omega), if_pos (by omega)]
      congr 1
    · show HO.lst _ = HO.lst _
      rw [List.set_cons_succ, List.map_set]
end
section
variable {mk : BKind} {P : Program} {w : World} {K : PySem.W.Frag} {mg : Str → Option Value} {base : Heap} {x m qual : Str} {C : Addr} {st : Stmt} {N ps : List Str} {k : Nat} {α β : Type} {ef : HE → Er} {args : α → List Vp} {r : Rep β} {md : α → DM β}
theorem Src.okKW (hmk : ∀ b l, (mk b l).own = true) (F : Src K mg x st ps) (S : FnScope N ps (defScope st)) (len : ∀ x, (args x).length + 1 = ps.length)
    (hbody : ∀ (f : Addr) (cdv : Value) (A : Around) (outer : List Env) (s : Shared) (H : Hp) (E : XK) (b l : Addr) (a : α) (Q : β → Prop), Room k (A.deeper (envOfC x (defScope st) s.heap.objs.size f cdv)) → md a Q noX →
      ∃ t, PSs (cxOf CX0 P w K mg base N x (defScope st) f cdv A outer s H E).nox (defBody st) t ∧ ∀ fr Qv, RetKW mk fr b l Qv r Q → Kn fr (envOf N (zAt b :: args a)) [mk b l] (t { nx := fun _ H' => Qv .non H', rt := Qv })) : Def P w K mg base CX0 (k + 1) x ps (spC (preK mk (preBW args r md))) :=
  F.okC S (fun qs Θ out err ⟨b, l, qs', o, h1, h2, ⟨a, Q, e, _⟩, _⟩ => ⟨by rw [h1, e]; exact len a, fun c hc => by rw [h2] at hc; rw [List.mem_singleton.mp hc]; exact hmk b l⟩) fun f cdv A outer s H E qs Θ out err hr ⟨b, l, qs', o, e1, e2, ⟨a, Q, e3, h, e4⟩, e5, e6⟩ => by
    subst e1 e2 e3 e4 e5 e6
    obtain ⟨t, ht, hk⟩ := hbody f cdv A outer s H E b l a Q hr h
    refine ⟨t, ht, fun fr Qv hret => hk fr Qv fun y hy Θ hc => ?_⟩
    obtain ⟨Θr, pm⟩ := perm_of_mem hc
    refine hret _ [mk b l] ⟨⟨y, hy, rfl⟩, rfl⟩ rfl Θ Θr pm
end
end L2

set_option Elab.async false
set_option linter.all false
set_option maxRecDepth 100000
set_option maxHeartbeats 4000000
/-! The script, boxes made of it. -/
namespace L2
open PySem PySem.Spec PyProof.Rows PySem.HErr
def zScr (Kf : PySem.W.Frag) : Rep (List Int) := ⟨fun F v ns => ∃ a, v = .ref a ∧ SqL Kf F a (ns.map V.int) ∧ ns.length ≤ 63, fun e ⟨a, h1, h2, h3⟩ => ⟨a, h1, e.seq h2, h3⟩⟩
def preBag (Kf : PySem.W.Frag) (t : Nat) : PreN := fun ps out err => ∃ ns, ps = [iz (zScr Kf) ns] ∧ out = (fun p Θn => ∃ b l, p = zAt b ∧ Θn = [cBag t b l]) ∧ err = noErr
section
variable {fr fr' : Fr} {Γ Γ' : Gam} {Θ Θ' : List Cel} {F F' H H' : Hp} {K : Vp → List Cel → Prop} {Qv : VK}
theorem wi_scr {Kf : PySem.W.Frag} {tl : TE} {K : List Vp → List Cel → Prop} (w : We fr Γ Θ tl fun p Θ1 => ∃ ns : List Int, p = iz (zScr Kf) ns ∧ (ns.length ≤ big → K (ns.map (iz zI)) Θ1)) : Wi fr Γ Θ (iList Kf tl) K := fun σ F H ok env R q =>
  w σ F H ok env _ fun p Θ1 ⟨ns, e, k⟩ v F1 H1 s1 ok1 hp => by
    subst e
    obtain ⟨a, rfl, h2, h3⟩ := hp
    have up : ∀ {F2 H2 : Hp}, Same F1 F2 → Same F2 H2 → SqL Kf H2 a (ns.map V.int) := fun s2 fh => (s2.trans fh).seq h2
    refine ⟨a, rfl, ⟨_, up (Same.refl _) ok1.fh⟩, q _ Θ1 (k (Nat.le_trans h3 (by decide))) _ F1 H1 s1 ok1 fun F2 H2 s2 fh => ⟨fun i p hi => ?_, ?_⟩⟩
    · obtain ⟨x, hx, rfl⟩ := get_izs hi
      have hu : (ns.map V.int)[i]? = some (.int x) := by rw [List.getElem?_map, hx]; rfl
      refine ⟨⟨_, _, up s2 fh, hu⟩, fun y H3 ⟨e, hy⟩ => ?_⟩
      subst e
      have hy := hy _ (up s2 fh)
      rw [hu] at hy
      cases hy
      exact ⟨F2, Same.refl _, Same.refl _, fh, Newer.refl _ _, rfl⟩
    · rw [List.length_map]
      refine ⟨_, up s2 fh, ?_⟩
      rw [List.length_map]
      exact Nat.le_refl _
theorem sy_slScr {Kf : PySem.W.Frag} {ns : List Int} {lo hi : Option Int} (k : K (iz (yL zI) (cutX ns lo hi)) Θ) : Sls fr Θ (rSlL Kf) (iz (zScr Kf) ns) lo hi K := fun F H v ok hv Q q => by
  obtain ⟨a, rfl, h2, h3⟩ := hv
  refine ⟨a, _, rfl, ok.fh.seq h2, fun l nl => q.new k ok nl ⟨⟨l, _, rfl, upd_same, ?_⟩, cutX_len (Nat.le_trans h3 (by decide))⟩⟩
  exact pvs_cut ints_pvs
/-- the box is made -/
theorem we_bag {t : TA} {m : Nat} (w : Wa fr Γ Θ t fun ps Θ1 => ∃ (ns is : List Int), ps = iz (yL zI) ns :: is.map (iz zI) ∧ is.length = m ∧ m ≤ 10 ∧ (∀ i, is[0]? = some i → 0 ≤ i) ∧ ∀ b l, K (zAt b) (cBag m b l :: Θ1)) : We fr Γ Θ (tLst t) K := fun σ F H ok env Q q =>
  w σ F H ok env _ fun ps Θ1 ⟨ns, is, e, h1, h0, h2, k⟩ vs F1 H1 s1 ok1 hps => by
    subst e
    cases hps with
    | cons hl hi =>
      obtain ⟨⟨l, us, rfl, g2, g3⟩, g4⟩ := hl
      have e1 := pvs_I g3
      subst e1
      have e2 := pvs_I (pvs_map hi)
      subst e2
      refine ⟨?_, fun p np => q _ _ (k p l) _ F1 _ s1 (ok1.mkOwn (c := cBag m p l) np rfl ⟨ns, is, h1, h2, rfl, g2, g4⟩) rfl⟩
      rw [List.length_cons, List.length_map]
      exact Nat.le_of_lt (small1000 (by omega))
end
end L2

set_option Elab.async false
set_option linter.all false
set_option maxRecDepth 100000
set_option maxHeartbeats 4000000
/-! == of typed data (bools too), numbers as texts, tuples joined, zip, enumerate, f-strings, errors that are caught. -/
namespace L2
open PySem PySem.Spec PyProof.Rows PySem.HErr
section
variable {fr fr' : Fr} {Γ Γ' : Gam} {Θ Θ' : List Cel} {F F' H H' : Hp} {K : Vp → List Cel → Prop} {Qv : VK}
/-! == of one kind -/
class QDat {α : Type} (r : Rep α) [DecidableEq α] where
  enc : α → PyData
  dep : Nat
  dp : ∀ {Kf : PySem.W.Frag} {F : Hp} {v : V} {x : α}, r.p F v x → Dp Kf F v (enc x)
  cl : ∀ {F : Hp} {v : V} {x : α}, r.p F v x → (enc x).canLay0 = true
  dl : ∀ x : α, (enc x).depth ≤ dep
  eq : ∀ x y : α, PyData.eqv (enc x) (enc y) = decide (x = y)
instance : QDat zI := ⟨PyData.int, 0, fun h => Dat.dp (r := zI) h, fun _ => by simp only [PyData.canLay0], fun x => Dat.dl (r := zI) x, fun x y => by simp only [PyData.eqv]; exact Bool.eq_iff_iff.mpr (by simp)⟩
instance : QDat zB := ⟨PyData.bool, 0, fun h => by cases (show _ = V.bl _ from h); exact .bl _, fun _ => by simp only [PyData.canLay0], fun x => by simp [PyData.depth], fun x y => by cases x <;> cases y <;> simp [PyData.eqv]⟩
instance : QDat yS := ⟨PyData.str, 0, fun h => Dat.dp (r := zS) h.1, fun h => by simp only [PyData.canLay0]; exact h.1.2.ok, fun x => Dat.dl (r := zS) x, fun x y => by simp only [PyData.eqv]; exact Bool.eq_iff_iff.mpr (by simp)⟩
theorem q_all {α : Type} [DecidableEq α] {r : Rep α} [d : QDat r] {Kf : PySem.W.Frag} {vs : List V} {xs : List α} (h : PVs r F vs xs) : DpAll Kf F vs (xs.map d.enc) ∧ PyData.canLayAll0 (xs.map d.enc) = true := by
  induction h with
  | nil => exact ⟨.nil, by simp only [List.map_nil, PyData.canLayAll0]⟩
  | cons a _ ih => exact ⟨.cons (d.dp a) ih.1, by simp only [List.map_cons, PyData.canLayAll0, d.cl a, ih.2, Bool.and_self]⟩
theorem q_dep {α : Type} [DecidableEq α] {r : Rep α} [d : QDat r] (xs : List α) : PyData.depthAll (xs.map d.enc) ≤ d.dep := depthAll_le fun y hy => by
  obtain ⟨x, _, rfl⟩ := List.mem_map.mp hy
  exact d.dl x
theorem q_eqs {α : Type} [DecidableEq α] {r : Rep α} [d : QDat r] : ∀ xs ys : List α, PyData.eqvAll (xs.map d.enc) (ys.map d.enc) = decide (xs = ys)
  | [], [] => by simp [PyData.eqvAll]
  | [], _ :: _ => by simp [PyData.eqvAll]
  | _ :: _, [] => by simp [PyData.eqvAll]
  | x :: xs, y :: ys => by simp [PyData.eqvAll, d.eq, q_eqs xs ys]
instance {α : Type} [DecidableEq α] {r : Rep α} [d : QDat r] : QDat (yL r) := ⟨fun xs => .list (xs.map d.enc), d.dep + 1, fun ⟨⟨a, vs, h1, h2, h3⟩, _⟩ => by subst h1; exact .lst (SqL.of h2) (q_all h3).1, fun ⟨⟨a, vs, h1, h2, h3⟩, _⟩ => by simp only [PyData.canLay0]; exact (q_all (Kf := []) h3).2, fun xs => by
  have := q_dep (r := r) xs
  simp only [PyData.depth]
  omega, fun x y => by simp only [PyData.eqv]; exact q_eqs x y⟩
instance {α : Type} [DecidableEq α] {r : Rep α} [d : QDat r] : QDat (yT r) := ⟨fun xs => .tuple (xs.map d.enc), d.dep + 1, fun ⟨⟨a, vs, h1, h2, h3⟩, _⟩ => by subst h1; exact .tup (SqT.of h2) (q_all h3).1, fun ⟨⟨a, vs, h1, h2, h3⟩, _⟩ => by simp only [PyData.canLay0]; exact (q_all (Kf := []) h3).2, fun xs => by
  have := q_dep (r := r) xs
  simp only [PyData.depth]
  omega, fun x y => by simp only [PyData.eqv]; exact q_eqs x y⟩
instance {α β : Type} [DecidableEq α] [DecidableEq β] {r : Rep α} {s : Rep β} [d : QDat r] [e : QDat s] : QDat (z2 r s) := ⟨fun x => .tuple [d.enc x.1, e.enc x.2], max d.dep e.dep + 1, fun ⟨a, u, w, h1, h2, h3, h4⟩ => by subst h1; exact .tup (SqT.of h2) (.cons (d.dp h3) (.cons (e.dp h4) .nil)),
  fun ⟨a, u, w, h1, h2, h3, h4⟩ => by simp only [PyData.canLay0, PyData.canLayAll0, d.cl h3, e.cl h4, Bool.and_self], fun x => by
    have h1 := d.dl x.1
    have h2 := e.dl x.2
    simp only [PyData.depth, PyData.depthAll]
    omega, fun x y => by
    simp only [PyData.eqv, PyData.eqvAll, d.eq, e.eq, Bool.and_true]
    exact Bool.eq_iff_iff.mpr (by simp [Prod.ext_iff])⟩
instance {α β γ : Type} [DecidableEq α] [DecidableEq β] [DecidableEq γ] {r : Rep α} {s : Rep β} {t : Rep γ} [d : QDat r] [e : QDat s] [f : QDat t] : QDat (z3 r s t) := ⟨fun x => .tuple [d.enc x.1, e.enc x.2.1, f.enc x.2.2], max d.dep (max e.dep f.dep) + 1, fun ⟨a, u, w, z, h1, h2, h3, h4, h5⟩ => by subst h1; exact .tup (SqT.of h2) (.cons (d.dp h3) (.cons (e.dp h4) (.cons (f.dp h5) .nil))),
  fun ⟨a, u, w, z, h1, h2, h3, h4, h5⟩ => by simp only [PyData.canLay0, PyData.canLayAll0, d.cl h3, e.cl h4, f.cl h5, Bool.and_self], fun x => by
    have h1 := d.dl x.1
    have h2 := e.dl x.2.1
    have h3 := f.dl x.2.2
    simp only [PyData.depth, PyData.depthAll]
    omega, fun x y => by
    simp only [PyData.eqv, PyData.eqvAll, d.eq, e.eq, f.eq, Bool.and_true]
    exact Bool.eq_iff_iff.mpr (by simp [Prod.ext_iff])⟩
instance {α β γ δ : Type} [DecidableEq α] [DecidableEq β] [DecidableEq γ] [DecidableEq δ] {r : Rep α} {s : Rep β} {t : Rep γ} {u : Rep δ} [d : QDat r] [e : QDat s] [f : QDat t] [g : QDat u] : QDat (z4 r s t u) := ⟨fun x => .tuple [d.enc x.1, e.enc x.2.1, f.enc x.2.2.1, g.enc x.2.2.2], max (max d.dep e.dep) (max f.dep g.dep) + 1, fun ⟨a, v1, v2, v3, v4, h1, h2, h3, h4, h5, h6⟩ => by subst h1; exact .tup (SqT.of h2) (.cons (d.dp h3) (.cons (e.dp h4) (.cons (f.dp h5) (.cons (g.dp h6) .nil)))),
  fun ⟨a, v1, v2, v3, v4, h1, h2, h3, h4, h5, h6⟩ => by simp only [PyData.canLay0, PyData.canLayAll0, d.cl h3, e.cl h4, f.cl h5, g.cl h6, Bool.and_self], fun x => by
    have h1 := d.dl x.1
    have h2 := e.dl x.2.1
    have h3 := f.dl x.2.2.1
    have h4 := g.dl x.2.2.2
    simp only [PyData.depth, PyData.depthAll]
    omega, fun x y => by
    simp only [PyData.eqv, PyData.eqvAll, d.eq, e.eq, f.eq, g.eq, Bool.and_true]
    exact Bool.eq_iff_iff.mpr (by simp [Prod.ext_iff])⟩
instance {α β γ δ ε : Type} [DecidableEq α] [DecidableEq β] [DecidableEq γ] [DecidableEq δ] [DecidableEq ε] {r : Rep α} {s : Rep β} {t : Rep γ} {u : Rep δ} {w : Rep ε} [d : QDat r] [e : QDat s] [f : QDat t] [g : QDat u] [i : QDat w] : QDat (z5 r s t u w) := ⟨fun x => .tuple [d.enc x.1, e.enc x.2.1, f.enc x.2.2.1, g.enc x.2.2.2.1, i.enc x.2.2.2.2], max (max d.dep e.dep) (max f.dep (max g.dep i.dep)) + 1, fun ⟨a, v1, v2, v3, v4, v5, h1, h2, h3, h4, h5, h6, h7⟩ => by subst h1; exact .tup (SqT.of h2) (.cons (d.dp h3) (.cons (e.dp h4) (.cons (f.dp h5) (.cons (g.dp h6) (.cons (i.dp h7) .nil))))),
  fun ⟨a, v1, v2, v3, v4, v5, h1, h2, h3, h4, h5, h6, h7⟩ => by simp only [PyData.canLay0, PyData.canLayAll0, d.cl h3, e.cl h4, f.cl h5, g.cl h6, i.cl h7, Bool.and_self], fun x => by
    have h1 := d.dl x.1
    have h2 := e.dl x.2.1
    have h3 := f.dl x.2.2.1
    have h4 := g.dl x.2.2.2.1
    have h5 := i.dl x.2.2.2.2
    simp only [PyData.depth, PyData.depthAll]
    omega, fun x y => by
    simp only [PyData.eqv, PyData.eqvAll, d.eq, e.eq, f.eq, g.eq, i.eq, Bool.and_true]
    exact Bool.eq_iff_iff.mpr (by simp [Prod.ext_iff])⟩
instance {α : Type} [DecidableEq α] {r : Rep α} [d : QDat r] : QDat (z1 r) := ⟨fun x => .tuple [d.enc x], d.dep + 1, fun ⟨a, v1, h1, h2, h3⟩ => by subst h1; exact .tup (SqT.of h2) (.cons (d.dp h3) .nil),
  fun ⟨a, v1, h1, h2, h3⟩ => by simp only [PyData.canLay0, PyData.canLayAll0, d.cl h3, Bool.and_self], fun x => by
    have h1 := d.dl x
    simp only [PyData.depth, PyData.depthAll]
    omega, fun x y => by simp only [PyData.eqv, PyData.eqvAll, d.eq, Bool.and_true]⟩
instance {α β : Type} [DecidableEq α] [DecidableEq β] {r : Rep α} {s : Rep β} [d : QDat r] [e : QDat s] : QDat (zLp r s) := ⟨fun x => .list [d.enc x.1, e.enc x.2], max d.dep e.dep + 1, fun ⟨a, u, w, h1, h2, h3, h4⟩ => by subst h1; exact .lst (SqL.of h2) (.cons (d.dp h3) (.cons (e.dp h4) .nil)),
  fun ⟨a, u, w, h1, h2, h3, h4⟩ => by simp only [PyData.canLay0, PyData.canLayAll0, d.cl h3, e.cl h4, Bool.and_self], fun x => by
    have h1 := d.dl x.1
    have h2 := e.dl x.2
    simp only [PyData.depth, PyData.depthAll]
    omega, fun x y => by
    simp only [PyData.eqv, PyData.eqvAll, d.eq, e.eq, Bool.and_true]
    exact Bool.eq_iff_iff.mpr (by simp [Prod.ext_iff])⟩
instance {α β γ : Type} [DecidableEq α] [DecidableEq β] [DecidableEq γ] {r : Rep α} {s : Rep β} {t : Rep γ} [d : QDat r] [e : QDat s] [f : QDat t] : QDat (zL3 r s t) := ⟨fun x => .list [d.enc x.1, e.enc x.2.1, f.enc x.2.2], max d.dep (max e.dep f.dep) + 1, fun ⟨a, u, w, z, h1, h2, h3, h4, h5⟩ => by subst h1; exact .lst (SqL.of h2) (.cons (d.dp h3) (.cons (e.dp h4) (.cons (f.dp h5) .nil))),
  fun ⟨a, u, w, z, h1, h2, h3, h4, h5⟩ => by simp only [PyData.canLay0, PyData.canLayAll0, d.cl h3, e.cl h4, f.cl h5, Bool.and_self], fun x => by
    have h1 := d.dl x.1
    have h2 := e.dl x.2.1
    have h3 := f.dl x.2.2
    simp only [PyData.depth, PyData.depthAll]
    omega, fun x y => by
    simp only [PyData.eqv, PyData.eqvAll, d.eq, e.eq, f.eq, Bool.and_true]
    exact Bool.eq_iff_iff.mpr (by simp [Prod.ext_iff])⟩
theorem q_shape {α : Type} [DecidableEq α] {r : Rep α} [d : QDat r] {v : V} {x : α} (hd : d.dep ≤ 64) (h : r.p F v x) : SeqAt.shaped (d.enc x) = true := by
  unfold SeqAt.shaped
  rw [d.cl h, decide_eq_true (Nat.le_trans (d.dl x) hd)]
  rfl
theorem oq_eq {Kf : PySem.W.Frag} {α : Type} [DecidableEq α] {r : Rep α} [d : QDat r] {x y : α} (hd : d.dep ≤ 64) (k : K (iz zB (decide (x = y))) Θ) : Ops fr Θ (rEqD Kf) (iz r x) (iz r y) K := fun F H v w ok hv hw Q q =>
  ⟨d.enc x, d.enc y, (d.dp hv).up ok.fh, (d.dp hw).up ok.fh, q_shape hd hv, q_shape hd hw, by rw [d.eq]; exact q.go k ok rfl⟩
theorem oq_ne {Kf : PySem.W.Frag} {α : Type} [DecidableEq α] {r : Rep α} [d : QDat r] {x y : α} (hd : d.dep ≤ 64) (k : K (iz zB (!decide (x = y))) Θ) : Ops fr Θ (rNeD Kf) (iz r x) (iz r y) K := fun F H v w ok hv hw Q q =>
  ⟨d.enc x, d.enc y, (d.dp hv).up ok.fh, (d.dp hw).up ok.fh, q_shape hd hv, q_shape hd hw, by rw [d.eq]; exact q.go k ok rfl⟩
/-! one of two kinds -/
def yU {α β : Type} (r : Rep α) (s : Rep β) : Rep (α ⊕ β) := ⟨fun F v x => match x with | .inl a => r.p F v a | .inr b => s.p F v b, fun {F F' v x} e h => by
  cases x with
  | inl a => exact r.mono e h
  | inr b => exact s.mono e h⟩
theorem le_Ul {α β : Type} {r : Rep α} {s : Rep β} {x : α} : (iz r x).Le (iz (yU r s) (.inl x)) := fun F v h => h
theorem le_Ur {α β : Type} {r : Rep α} {s : Rep β} {x : β} : (iz s x).Le (iz (yU r s) (.inr x)) := fun F v h => h
/-- unlike kinds are never equal -/
class QApart {α β : Type} [DecidableEq α] [DecidableEq β] (r : Rep α) (s : Rep β) [d : QDat r] [e : QDat s] : Prop where
  ne : ∀ x y, PyData.eqv (d.enc x) (e.enc y) = false
  ne' : ∀ x y, PyData.eqv (e.enc y) (d.enc x) = false
instance {α β γ : Type} [DecidableEq α] [DecidableEq β] [DecidableEq γ] {r : Rep α} {s : Rep β} {t : Rep γ} [d : QDat r] [e : QDat s] [f : QDat t] : QApart yS (zL3 r s t) := ⟨fun x y => by simp [QDat.enc, PyData.eqv], fun x y => by simp [QDat.enc, PyData.eqv]⟩
instance {α β : Type} [DecidableEq α] [DecidableEq β] {r : Rep α} {s : Rep β} [d : QDat r] [e : QDat s] : QApart yS (zLp r s) := ⟨fun x y => by simp [QDat.enc, PyData.eqv], fun x y => by simp [QDat.enc, PyData.eqv]⟩
instance {α : Type} [DecidableEq α] {r : Rep α} [d : QDat r] : QApart yS (yL r) := ⟨fun x y => by simp [QDat.enc, PyData.eqv], fun x y => by simp [QDat.enc, PyData.eqv]⟩
instance {α : Type} [DecidableEq α] {r : Rep α} [d : QDat r] : QApart yS (yT r) := ⟨fun x y => by simp [QDat.enc, PyData.eqv], fun x y => by simp [QDat.enc, PyData.eqv]⟩
theorem oq_eqUl {Kf : PySem.W.Frag} {α β : Type} [DecidableEq α] [DecidableEq β] {r : Rep α} {s : Rep β} [d : QDat r] [e : QDat s] [ap : QApart r s] {x : α ⊕ β} {y : α} (hd : d.dep ≤ 64 ∧ e.dep ≤ 64) (k : K (iz zB (decide (x = .inl y))) Θ) : Ops fr Θ (rEqD Kf) (iz (yU r s) x) (iz r y) K := fun F H v w ok hv hw Q q => by
  cases x with
  | inl a =>
    refine oq_eq (r := r) hd.1 (K := K) ?_ F H v w ok hv hw Q q
    rw [show decide (a = y) = decide ((Sum.inl a : α ⊕ β) = .inl y) by simp]
    exact k
  | inr b => exact ⟨e.enc b, d.enc y, (e.dp hv).up ok.fh, (d.dp hw).up ok.fh, q_shape hd.2 hv, q_shape hd.1 hw, by
      rw [ap.ne']
      rw [show decide ((Sum.inr b : α ⊕ β) = .inl y) = false by simp] at k
      exact q.go k ok rfl⟩
theorem oq_neUl {Kf : PySem.W.Frag} {α β : Type} [DecidableEq α] [DecidableEq β] {r : Rep α} {s : Rep β} [d : QDat r] [e : QDat s] [ap : QApart r s] {x : α ⊕ β} {y : α} (hd : d.dep ≤ 64 ∧ e.dep ≤ 64) (k : K (iz zB (!decide (x = .inl y))) Θ) : Ops fr Θ (rNeD Kf) (iz (yU r s) x) (iz r y) K := fun F H v w ok hv hw Q q => by
  cases x with
  | inl a =>
    refine oq_ne (r := r) hd.1 (K := K) ?_ F H v w ok hv hw Q q
    rw [show decide (a = y) = decide ((Sum.inl a : α ⊕ β) = .inl y) by simp]
    exact k
  | inr b => exact ⟨e.enc b, d.enc y, (e.dp hv).up ok.fh, (d.dp hw).up ok.fh, q_shape hd.2 hv, q_shape hd.1 hw, by
      rw [ap.ne']
      rw [show decide ((Sum.inr b : α ⊕ β) = .inl y) = false by simp] at k
      exact q.go k ok rfl⟩
theorem oq_eqUr {Kf : PySem.W.Frag} {α β : Type} [DecidableEq α] [DecidableEq β] {r : Rep α} {s : Rep β} [d : QDat r] [e : QDat s] [ap : QApart r s] {x : α ⊕ β} {y : β} (hd : d.dep ≤ 64 ∧ e.dep ≤ 64) (k : K (iz zB (decide (x = .inr y))) Θ) : Ops fr Θ (rEqD Kf) (iz (yU r s) x) (iz s y) K := fun F H v w ok hv hw Q q => by
  cases x with
  | inr a =>
    refine oq_eq (r := s) hd.2 (K := K) ?_ F H v w ok hv hw Q q
    rw [show decide (a = y) = decide ((Sum.inr a : α ⊕ β) = .inr y) by simp]
    exact k
  | inl b => exact ⟨d.enc b, e.enc y, (d.dp hv).up ok.fh, (e.dp hw).up ok.fh, q_shape hd.1 hv, q_shape hd.2 hw, by
      rw [ap.ne]
      rw [show decide ((Sum.inl b : α ⊕ β) = .inr y) = false by simp] at k
      exact q.go k ok rfl⟩
theorem oq_neUr {Kf : PySem.W.Frag} {α β : Type} [DecidableEq α] [DecidableEq β] {r : Rep α} {s : Rep β} [d : QDat r] [e : QDat s] [ap : QApart r s] {x : α ⊕ β} {y : β} (hd : d.dep ≤ 64 ∧ e.dep ≤ 64) (k : K (iz zB (!decide (x = .inr y))) Θ) : Ops fr Θ (rNeD Kf) (iz (yU r s) x) (iz s y) K := fun F H v w ok hv hw Q q => by
  cases x with
  | inr a =>
    refine oq_ne (r := s) hd.2 (K := K) ?_ F H v w ok hv hw Q q
    rw [show decide (a = y) = decide ((Sum.inr a : α ⊕ β) = .inr y) by simp]
    exact k
  | inl b => exact ⟨d.enc b, e.enc y, (d.dp hv).up ok.fh, (e.dp hw).up ok.fh, q_shape hd.1 hv, q_shape hd.2 hw, by
      rw [ap.ne]
      rw [show decide ((Sum.inl b : α ⊕ β) = .inr y) = false by simp] at k
      exact q.go k ok rfl⟩
def uEl {α β : Type} (p q : Bool) : α ⊕ β → Bool
  | .inl _ => p
  | .inr _ => q
theorem cy_isiU {Kf : PySem.W.Frag} {α β : Type} {r : Rep α} {s : Rep β} {x : α ⊕ β} {n a b : String} {p q : Bool} (ha : ∀ y, TyP fr Θ Kf (iz r y) (.type a)) (hb : ∀ y, TyP fr Θ Kf (iz s y) (.type b)) (ea : kitB a n = some p) (eb : kitB b n = some q) (k : K (iz zB (uEl p q x)) Θ) : Cbs fr Θ (rIsi Kf) [iz (yU r s) x, zTy n] K := by
  cases x with
  | inl y => exact cb_isi (ha y) ea k
  | inr y => exact cb_isi (hb y) eb k
theorem ty_F3 {Kf : PySem.W.Frag} {α β γ : Type} {r : Rep α} {s : Rep β} {t : Rep γ} {x : α × β × γ} : TyP fr Θ Kf (iz (zL3 r s t) x) (.type "list") := fun F H v ok ⟨a, u, w, z, h1, h2, h3⟩ => by subst h1; exact .base (.lst (ok.fh _ _ h2))
theorem ty_F2 {Kf : PySem.W.Frag} {α β : Type} {r : Rep α} {s : Rep β} {x : α × β} : TyP fr Θ Kf (iz (zLp r s) x) (.type "list") := fun F H v ok ⟨a, u, w, h1, h2, h3⟩ => by subst h1; exact .base (.lst (ok.fh _ _ h2))
/-! numbers as texts -/
def numS (n : Int) : Str := Str.ofString (toString n)
theorem asc_ofL {s : String} (h : ∀ c ∈ s.toList, c.toNat < 128) : Asc (Str.ofString s) := fun c hc => by
  rw [PyProof.Rows.signs_ofString] at hc
  obtain ⟨d, hd, rfl⟩ := List.mem_map.mp hc
  exact h d hd
theorem num_ascN (n : Nat) : Asc (numS (n : Int)) := fun c hc => by
  have e : (numS (n : Int)).cps.toList = TL.numL n := TL.tl_num n
  rw [e] at hc
  have := TL.numL_digits n c hc
  omega
theorem num_neg (n : Nat) : (numS (Int.negSucc n)).cps.toList = 45 :: TL.numL (n + 1) := by
  unfold numS
  rw [PyProof.Rows.signs_ofString]
  show ((("-" : String) ++ Nat.repr (n + 1)).toList).map Char.toNat = _
  rw [String.toList_append, List.map_append, Nat.toList_repr]
  rfl
theorem num_asc (n : Int) : Asc (numS n) := by
  cases n with
  | ofNat n => exact num_ascN n
  | negSucc n =>
    intro c hc
    rw [num_neg] at hc
    rcases List.mem_cons.mp hc with rfl | hc
    · decide
    · have := TL.numL_digits (n + 1) c hc
      omega
def CStr (n : Int) : Prop := n.natAbs < 10 ^ 200
theorem CStr.log {n : Int} (h : CStr n) : n.natAbs.log2 < 1920 := by
  unfold CStr at h
  by_cases e : n.natAbs = 0
  · rw [e]; decide
  · rw [Nat.log2_lt e]
    exact Nat.lt_trans h (by decide)
theorem num_len {n : Int} (h : CStr n) : (numS n).length ≤ 1921 := by
  have e := PySem.int_text_length_le (k := 1920) (by decide) h.log
  show (Str.ofString (toString n)).length ≤ _
  rw [PySem.ofString_length]
  exact e
theorem le_num {n : Int} (h : CStr n) : ∀ F, (iz yS (numS n)).p F (.str (Str.ofString (toString n))) := fun F => ⟨⟨rfl, num_asc n⟩, Nat.le_trans (num_len h) (by decide)⟩
theorem cy_str {n : Int} (h : CStr n) (k : K (iz yS (numS n)) Θ) : Cbs fr Θ (fun xs H Q => ∃ i : Int, xs = [.int i] ∧ i.natAbs.log2 < 1920 ∧ Q (.str (toString i)) H) [iz zI n] K := fun F H vs ok hps Q q => by
  cases hps with
  | cons h1 hp => cases hp with
    | nil =>
      have h1 : _ = V.int n := h1
      subst h1
      exact ⟨n, rfl, h.log, q.go k ok (le_num h F)⟩
/-! tuples joined, cut -/
theorem kop_catA {X : Cx} {K : PySem.W.Frag} (h : X.K = K := by rfl) : OpR X (binaryOp .Add) (rCatA K) := by
  subst h
  exact op_catA
theorem ksl_tupA {X : Cx} {K : PySem.W.Frag} (h : X.K = K := by rfl) : SlR X (rSlA K) := by
  subst h
  exact sl_tupA
theorem oy_catT {Kf : PySem.W.Frag} {α : Type} {r : Rep α} {xs ys : List α} (hl : xs.length + ys.length ≤ big) (k : K (iz (yT r) (xs ++ ys)) Θ) : Ops fr Θ (rCatA Kf) (iz (yT r) xs) (iz (yT r) ys) K := fun F H v w ok ⟨⟨a, vs, h1, h2, h3⟩, h4⟩ ⟨⟨b, us, g1, g2, g3⟩, g4⟩ Q q => by
  subst h1 g1
  have hl' : (xs ++ ys).length ≤ big := by rw [List.length_append]; exact hl
  refine ⟨a, b, vs, us, rfl, rfl, SqT.of (ok.fh _ _ h2), SqT.of (ok.fh _ _ g2), by rw [Paired.len h3, Paired.len g3]; exact big_line hl, fun e => ?_, fun e1 e2 => ?_, fun e1 e2 p np => ?_⟩
  · subst e
    cases h3
    exact q.go k ok ⟨⟨b, us, rfl, g2, g3⟩, hl'⟩
  · subst e2
    cases g3
    refine q.go k ok ⟨⟨a, vs, rfl, h2, ?_⟩, hl'⟩
    rw [List.append_nil]
    exact h3
  · exact q.new k ok np ⟨⟨p, _, rfl, upd_same, Paired.imp2 (fun _ _ h => r.mono (ok.sameF np) h) (Paired.app h3 g3)⟩, hl'⟩
theorem cut_whole {α : Type} {xs : List α} {lo hi : Option Int} (h : HT.sIx xs.length 0 lo = 0 ∧ HT.sIx xs.length xs.length hi = xs.length) : cutX xs lo hi = xs := by
  unfold cutX
  rw [h.1, h.2]
  simp
theorem oy_slA {Kf : PySem.W.Frag} {α : Type} {r : Rep α} {xs : List α} {lo hi : Option Int} (k : K (iz (yT r) (cutX xs lo hi)) Θ) : Sls fr Θ (rSlA Kf) (iz (yT r) xs) lo hi K := fun F H v ok ⟨⟨a, vs, h1, h2, h3⟩, h4⟩ Q q => by
  subst h1
  refine ⟨a, vs, rfl, SqT.of (ok.fh _ _ h2), fun e => ?_, fun e p np => ?_⟩
  · rw [Paired.len h3] at e
    rw [cut_whole e] at k
    exact q.go k ok ⟨⟨a, vs, rfl, h2, h3⟩, h4⟩
  · exact q.new k ok np ⟨⟨p, _, rfl, upd_same, Paired.imp2 (fun _ _ h => r.mono (ok.sameF np) h) (pvs_cut h3)⟩, cutX_len h4⟩
/-! f-strings -/
def Wj (fr : Fr) (Γ : Gam) (Θ : List Cel) (ts : List TE) (acc : Str) (K : Str → List Cel → Prop) : Prop := Asc acc → ∀ σ F H, OkF fr Θ F H → EnvF Γ σ F → ∀ Q : Str → Hp → Prop, (∀ z Θ', K z Θ' → Asc z → ∀ F' H', Same F F' → OkF fr Θ' F' H' → Q z H') → tJs ts acc σ H Q
theorem we_fs {ts : List TE} (w : Wj fr Γ Θ ts Str.empty fun z Θ1 => z.length ≤ big ∧ K (iz yS z) Θ1) : We fr Γ Θ (fun σ H Q => tJs ts Str.empty σ H fun out H1 => Q (.str out) H1) K := fun σ F H ok env Q q =>
  w (fun c hc => by cases hc) σ F H ok env _ fun z Θ' ⟨hl, k⟩ ha F' H' s' ok' => q _ Θ' k _ F' H' s' ok' ⟨⟨rfl, ha⟩, hl⟩
theorem wj_nil {acc : Str} {K : Str → List Cel → Prop} (k : K acc Θ) : Wj fr Γ Θ [] acc K := fun ha σ F H ok env Q q => q acc Θ k ha F H (Same.refl F) ok
theorem wj_cons {t : TE} {ts : List TE} {acc : Str} {K : Str → List Cel → Prop} (w : We fr Γ Θ t fun p Θ1 => ∃ z, p = iz yS z ∧ acc.length + z.length ≤ big ∧ Wj fr Γ Θ1 ts (acc ++ z) K) : Wj fr Γ Θ (t :: ts) acc K := fun ha σ F H ok env Q q =>
  w σ F H ok env _ fun p Θ1 ⟨z, e, hl, k⟩ v F1 H1 s1 ok1 hp => by
    subst e
    obtain ⟨⟨e1, hz⟩, _⟩ := hp
    exact ⟨z, e1, by rw [show (acc ++ z).length = acc.length + z.length from by show (acc.cps ++ z.cps).size = _; rw [Array.size_append]; rfl]; exact big_line hl, k (ha.app hz) σ F1 H1 ok1 (env.mono s1) Q fun z' Θ' kk hz' F' H' s' ok' => q z' Θ' kk hz' F' H' (s1.trans s') ok'⟩
theorem we_fmtS {t : TE} (w : We fr Γ Θ t fun p Θ1 => ∃ z, p = iz yS z ∧ K (iz yS z) Θ1) : We fr Γ Θ (tFmt t) K := fun σ F H ok env Q q =>
  w σ F H ok env _ fun p Θ1 ⟨z, e, k⟩ v F1 H1 s1 ok1 hp => by
    subst e
    exact .inl ⟨z, hp.1.1, big_line hp.2, q _ Θ1 k _ F1 H1 s1 ok1 ⟨⟨rfl, hp.1.2⟩, hp.2⟩⟩
theorem we_fmtI {t : TE} (w : We fr Γ Θ t fun p Θ1 => ∃ n, p = iz zI n ∧ CStr n ∧ K (iz yS (numS n)) Θ1) : We fr Γ Θ (tFmt t) K := fun σ F H ok env Q q =>
  w σ F H ok env _ fun p Θ1 ⟨n, e, hn, k⟩ v F1 H1 s1 ok1 hp => by
    subst e
    exact .inr ⟨n, hp, hn.log, q _ Θ1 k _ F1 H1 s1 ok1 (le_num hn F1)⟩
/-! zip -/
theorem get_zip {α β : Type} {xs : List α} {ys : List β} {i : Nat} {z : α × β} (h : (xs.zip ys)[i]? = some z) : xs[i]? = some z.1 ∧ ys[i]? = some z.2 := by
  rw [List.getElem?_zip_eq_some] at h
  exact h
theorem wi_zipT {Kf : PySem.W.Frag} {ta : TA} {K : List Vp → List Cel → Prop} (w : Wa fr Γ Θ ta fun ps Θ1 => ∃ (α β : Type) (r : Rep α) (s : Rep β) (xs : List α) (ys : List β), ps = [iz (yT r) xs, iz (yT s) ys] ∧ ((xs.zip ys).length ≤ big → K ((xs.zip ys).map (iz (z2 r s))) Θ1)) : Wi fr Γ Θ (RZ.iZipA Kf ta) K := fun σ F H ok env R q =>
  w σ F H ok env _ fun ps Θ1 ⟨α, β, r, s, xs, ys, e, k⟩ vs F1 H1 s1 ok1 hps => by
    subst e
    cases hps with
    | cons h1 hp => cases hp with
      | cons h2 hp => cases hp with
        | nil =>
          obtain ⟨⟨a, us, rfl, a2, a3⟩, a4⟩ := h1
          obtain ⟨⟨b, ws, rfl, b2, b3⟩, b4⟩ := h2
          have hk := k (by rw [List.length_zip]; omega)
          refine ⟨a, b, us, ws, rfl, .inr ⟨SqT.of (ok1.fh _ _ a2), SqT.of (ok1.fh _ _ b2), q _ Θ1 hk _ F1 H1 s1 ok1 fun F2 H2 s2 fh => ?_⟩⟩
          have qa : SqT Kf H2 a us := SqT.of (fh _ _ (s2 _ _ a2))
          have qb : SqT Kf H2 b ws := SqT.of (fh _ _ (s2 _ _ b2))
          refine ⟨fun i p hi => ?_, ?_⟩
          · obtain ⟨z, hz, rfl⟩ := get_izs hi
            obtain ⟨z1, z2⟩ := get_zip hz
            obtain ⟨u, hu, hux⟩ := Paired.get' a3 z1
            obtain ⟨v, hv, hvx⟩ := Paired.get' b3 z2
            refine ⟨⟨us, ws, u, v, qa, qb, hu, hv⟩, fun x H3 ⟨T, x1, y1, e1, e2, e3, e4, e5⟩ => ?_⟩
            subst e1 e3
            have e4 := e4 us qa
            have e5 := e5 ws qb
            rw [hu] at e4
            rw [hv] at e5
            cases e4
            cases e5
            have nF : F2 T = none := fh.free e2
            have sF : Same F2 (upd F2 T (.tup [u, v])) := same_upd nF
            refine ⟨upd F2 T (.tup [u, v]), sF, same_upd e2, fun c o hc => ?_, fun c o hc => ?_, ⟨T, u, v, rfl, upd_same, r.mono (s2.trans sF) hux, s.mono (s2.trans sF) hvx⟩⟩
            · by_cases q : c = T
              · subst q
                rw [upd_same] at hc ⊢
                exact hc
              · rw [upd_ne q] at hc ⊢
                exact fh _ _ hc
            · by_cases q : c = T
              · subst q
                exact .inr (.inl e2)
              · rw [upd_ne q] at hc
                exact .inl ⟨o, hc⟩
          · rw [List.length_map, List.length_zip]
            refine ⟨us, ws, qa, qb, ?_⟩
            rw [Paired.len a3, Paired.len b3]
            omega
end
end L2

set_option Elab.async false
set_option linter.all false
set_option maxRecDepth 100000
set_option maxHeartbeats 4000000
/-! Comprehensions over one's own lists; try. -/
namespace L2
open PySem PySem.Spec PyProof.Rows PySem.HErr
def JOkC (fr : Fr) (Θ : List Cel) (J : It) (F : Hp) (its : List Vp) : Prop := ∀ c F1 H1, Same F F1 → OkF fr (c :: Θ) F1 H1 → (∀ i p, its[i]? = some p → J.go i H1 ∧ ∀ x H2, J.yld i H1 x H2 → ∃ F2, Same F1 F2 ∧ Same H1 H2 ∧ Same F2 H2 ∧ Newer F1 H1 F2 ∧ p.p F2 x) ∧ J.stop its.length H1
def WiC (fr : Fr) (Γ : Gam) (Θ : List Cel) (wi : TI) (K : List Vp → List Cel → Prop) : Prop := ∀ σ F H, OkF fr Θ F H → EnvF Γ σ F → ∀ R : It → Hp → Prop, (∀ its Θ', K its Θ' → ∀ J F' H', Same F F' → OkF fr Θ' F' H' → JOkC fr Θ' J F' its → R J H') → wi σ H R
section
variable {fr fr' : Fr} {Γ Γ' : Gam} {Θ Θ' : List Cel} {F F' H H' : Hp} {K : Vp → List Cel → Prop} {Qv : VK}
theorem wi_yC {Kf : PySem.W.Frag} {α : Type} {r : Rep α} {xs : List α} {a : Addr} {i j : Nat} {K : List Vp → List Cel → Prop} (hi : Γ[i]? = some (some (zAt a))) (hj : Θ[j]? = some (cY a r xs)) (k : xs.length ≤ big → K (xs.map (iz r)) Θ) : WiC fr Γ Θ (iList Kf (tVar i)) K := fun σ F H ok env R q => by
  obtain ⟨v, h1, h2⟩ := env.get hi
  have h2 : v = .ref a := h2
  subst h2
  have at_ : ∀ {c F1 H1}, OkF fr (c :: Θ) F1 H1 → ∃ vs, H1 a = some (.lst vs) ∧ PVs r F1 vs xs := fun {c F1 H1} ok1 => by
    obtain ⟨_, ⟨o, g2, ⟨⟨vs, rfl, g4⟩, g5⟩⟩, _⟩ := ok1.ce _ (List.mem_cons_of_mem _ (List.mem_of_getElem? hj))
    exact ⟨vs, g2, g4⟩
  obtain ⟨_, ⟨o, g2, ⟨⟨vs, rfl, g4⟩, g5⟩⟩, _⟩ := ok.ce _ (List.mem_of_getElem? hj)
  refine ⟨_, h1, a, rfl, ⟨vs, SqL.of g2⟩, q _ Θ (k g5) _ F H (Same.refl F) ok fun c F2 H2 s2 ok2 => ?_⟩
  obtain ⟨us, e1, e2⟩ := at_ ok2
  have sq : SqL Kf H2 a us := SqL.of e1
  refine ⟨fun i p hi => ?_, ?_⟩
  · obtain ⟨x, hx, rfl⟩ := get_izs hi
    obtain ⟨u, hu, hux⟩ := Paired.get' e2 hx
    refine ⟨⟨us, u, sq, hu⟩, fun y H3 ⟨e, hy⟩ => ?_⟩
    subst e
    have hy := hy us sq
    rw [hu] at hy
    cases hy
    exact ⟨F2, Same.refl _, Same.refl _, ok2.fh, Newer.refl _ _, hux⟩
  · rw [List.length_map, ← Paired.len e2]
    exact ⟨us, sq, Nat.le_refl _⟩
theorem we_lcWC {α β : Type} {r : Rep α} {s : Rep β} {wi : TI} {g : TG} {tt : TT} {te : TE} {vs : List Nat}
    (w : WiC fr Γ Θ wi fun its Θ1 => ∃ (xs : List α) (f : α → (Option β → Prop) → Prop) (k : List β → Prop) (Γ2 : α → Gam), its = xs.map (iz r) ∧ Θ1 = Θ ∧ xs.length ≤ big ∧ (∀ x, TgR g vs (iz r x) (wipeG Γ vs) (Γ2 x)) ∧ compD xs [] f k ∧
      (∀ x c kx, f x kx → Wt fr (Γ2 x) (c :: Θ) tt fun b Θ1 => (b = true → We fr (Γ2 x) Θ1 te fun q Θ' => Θ' = c :: Θ ∧ ∃ y, q = iz s y ∧ kx (some y)) ∧ (b = false → Θ1 = c :: Θ ∧ kx none)) ∧
      (∀ ys, k ys → ys.length ≤ big → K (iz (yL s) ys) Θ)) : We fr Γ Θ (tLc wi g tt te vs) K := fun σ F H ok env Q q => by
  refine w σ F H ok env _ fun its Θ1 ⟨xs, f, k, Γ2, e1, e2, hl, tg, hc, hs, hk⟩ J F1 H1 s1 ok1 jok => ?_
  subst e1 e2
  intro D nD
  refine ⟨fun i m H' => m = xs.length - i ∧ i ≤ xs.length ∧ ∃ F2 ys, Same F1 F2 ∧ OkF fr (cL D s ys :: Θ1) F2 H' ∧ ys.length ≤ i ∧ compD (xs.drop i) ys f k, ⟨xs.length, by simp, Nat.zero_le _, F1, [], Same.refl _, ok1.mkOwn (c := cL D s []) nD rfl ⟨[], rfl, .nil⟩, Nat.le_refl _, hc⟩, ?_⟩
  rintro i m H' ⟨rfl, hi, F2, ys, s2, ok2, yl, py⟩
  obtain ⟨j1, j2⟩ := jok _ F2 H' s2 ok2
  by_cases hlt : i < xs.length
  · have hx : xs[i]? = some xs[i] := List.getElem?_eq_getElem hlt
    generalize xs[i] = x at hx
    obtain ⟨jg, jy⟩ := j1 i (iz r x) (by rw [List.getElem?_map, hx]; rfl)
    refine .inr ⟨jg, fun H3 => ∃ F3 ys, Same F1 F3 ∧ OkF fr (cL D s ys :: Θ1) F3 H3 ∧ ys.length ≤ i + 1 ∧ compD (xs.drop (i + 1)) ys f k, fun H3 p => ⟨xs.length - (i + 1), by omega, rfl, hlt, p⟩, fun v H3 y => ?_⟩
    obtain ⟨F3, e1, e2, e3, e4, e5⟩ := jy v H3 y
    have ok3 := ok2.grow e2 e1 e3 e4
    have s3 := s2.trans e1
    have hd : xs.drop i = x :: xs.drop (i + 1) := by
      obtain ⟨hl, e⟩ := List.getElem?_eq_some_iff.mp hx
      rw [List.drop_eq_getElem_cons hl, e]
    rw [hd] at py
    refine tg x (L2.wipe σ vs) F3 H3 v ok3.fh ((env.mono (s1.trans s3)).wipe vs) e5 _ fun σ2 env2 hw => ⟨?_, ?_⟩
    · rw [hw, wipe_idem]
    · refine hs x _ _ py σ2 F3 H3 ok3 env2 _ fun b Θ2 ⟨k1, k2⟩ F4 H4 s4 ok4 => ?_
      cases b with
      | true =>
        rw [if_pos rfl]
        refine k1 rfl σ2 F4 H4 ok4 (env2.mono s4) _ fun p Θ3 ⟨e8, y, e9, hy⟩ u F5 H5 s5 ok5 hp => ?_
        subst e8 e9
        obtain ⟨_, ⟨o, h2, acc, rfl, h4⟩, _⟩ := ok5.ce _ (List.mem_cons_self ..)
        have ok6 := ok5.mut (i := 0) (c := cL D s ys) (c' := cL D s (ys ++ [y])) (o := .lst (acc ++ [u])) rfl rfl rfl ⟨_, rfl, PySem.Paired.snoc h4 hp⟩
        refine ⟨acc, h2, ?_, F5, ys ++ [y], (s3.trans s4).trans s5, ok6, by rw [List.length_append]; show _ + 1 ≤ _; omega, hy⟩
        rw [Paired.len h4]
        exact big_lt (by omega)
      | false =>
        rw [if_neg Bool.false_ne_true]
        obtain ⟨e8, hn⟩ := k2 rfl
        subst e8
        have hn : compD (xs.drop (i + 1)) (ys ++ []) f k := hn
        rw [List.append_nil] at hn
        exact ⟨F4, ys, s3.trans s4, ok4, by omega, hn⟩
  · have e : i = xs.length := by omega
    subst e
    rw [List.drop_length] at py
    obtain ⟨_, ⟨o, h2, acc, rfl, h4⟩, _⟩ := ok2.ce _ (List.mem_cons_self ..)
    have ok3 := ok2.frz (i := 0) (c := cL D s ys) rfl rfl h2
    have sD : Same F2 (upd F2 D (.lst acc)) := same_upd (ok2.ce _ (List.mem_cons_self ..)).1
    have yb : ys.length ≤ big := by omega
    refine .inl ⟨by rw [List.length_map] at j2; exact j2, q _ _ (hk ys py yb) _ _ H' ((s1.trans s2).trans sD) ok3 ⟨⟨D, acc, rfl, upd_same, Paired.imp2 (fun _ _ h => s.mono sD h) h4⟩, yb⟩⟩
/-- with a test, all plain -/
theorem we_lcPC {α β : Type} {r : Rep α} {s : Rep β} {wi : TI} {g : TG} {tt : TT} {te : TE} {vs : List Nat}
    (w : WiC fr Γ Θ wi fun its Θ1 => ∃ (xs : List α) (pr : α → Bool) (f : α → β) (Γ2 : α → Gam), its = xs.map (iz r) ∧ Θ1 = Θ ∧ xs.length ≤ big ∧ (∀ x, TgR g vs (iz r x) (wipeG Γ vs) (Γ2 x)) ∧
      (∀ x c, Et fr (Γ2 x) (c :: Θ) tt (pr x)) ∧ (∀ x c, Ev fr (Γ2 x) (c :: Θ) te (iz s (f x))) ∧ K (iz (yL s) ((xs.filter pr).map f)) Θ) : We fr Γ Θ (tLc wi g tt te vs) K :=
  we_lcWC (r := r) (s := s) fun σ F H ok env R q => w σ F H ok env R fun its Θ1 ⟨xs, pr, f, Γ2, e1, e2, hl, tg, ht, he, k⟩ => q its Θ1 ⟨xs, fun x k => ifD (pr x) (k (some (f x))) (k none), (· = (xs.filter pr).map f), Γ2, e1, e2, hl, tg, by rw [compD_pure]; rfl,
    fun x c kx h σ F H ok env Q q => ht x c σ F H ok env Q fun b Θ1 ⟨e1, e2⟩ => q b Θ1 (by
      subst e1 e2
      exact ⟨fun hb => (he x c).imp fun p Θ' ⟨e3, e4⟩ => ⟨e4, _, e3, h.1 hb⟩, fun hb => ⟨rfl, h.2 hb⟩⟩), fun ys e _ => by rw [e]; exact k⟩
/-- without a test -/
theorem we_lcMC {α β : Type} {r : Rep α} {s : Rep β} {wi : TI} {g : TG} {te : TE} {vs : List Nat}
    (w : WiC fr Γ Θ wi fun its Θ1 => ∃ (xs : List α) (f : α → (β → Prop) → Prop) (k : List β → Prop) (Γ2 : α → Gam), its = xs.map (iz r) ∧ Θ1 = Θ ∧ xs.length ≤ big ∧ (∀ x, TgR g vs (iz r x) (wipeG Γ vs) (Γ2 x)) ∧ mapD xs [] f k ∧
      (∀ x c kx, f x kx → We fr (Γ2 x) (c :: Θ) te fun q Θ' => Θ' = c :: Θ ∧ ∃ y, q = iz s y ∧ kx y) ∧
      (∀ ys, k ys → ys.length ≤ big → K (iz (yL s) ys) Θ)) : We fr Γ Θ (tLc wi g tYes te vs) K :=
  we_lcWC (r := r) (s := s) fun σ F H ok env R q => w σ F H ok env R fun its Θ1 ⟨xs, f, k, Γ2, e1, e2, hl, tg, hm, he, hk⟩ => q its Θ1 ⟨xs, fun x k => f x fun y => k (some y), k, Γ2, e1, e2, hl, tg, by rw [← mapD_comp]; exact hm,
    fun x c kx h => wt_yes ⟨fun _ => (he x c _ h), (fun h => nomatch h)⟩, hk⟩
theorem we_lcM0C {α β : Type} {r : Rep α} {s : Rep β} {wi : TI} {g : TG} {te : TE} {vs : List Nat}
    (w : WiC fr Γ Θ wi fun its Θ1 => ∃ (xs : List α) (f : α → β) (Γ2 : α → Gam), its = xs.map (iz r) ∧ Θ1 = Θ ∧ xs.length ≤ big ∧ (∀ x, TgR g vs (iz r x) (wipeG Γ vs) (Γ2 x)) ∧
      (∀ x c, Ev fr (Γ2 x) (c :: Θ) te (iz s (f x))) ∧ K (iz (yL s) (xs.map f)) Θ) : We fr Γ Θ (tLc wi g tYes te vs) K :=
  we_lcMC (r := r) (s := s) fun σ F H ok env R q => w σ F H ok env R fun its Θ1 ⟨xs, f, Γ2, e1, e2, hl, tg, he, k⟩ => q its Θ1 ⟨xs, fun x k => k (f x), (· = xs.map f), Γ2, e1, e2, hl, tg, by rw [mapD_pure]; rfl,
    fun x c kx h => (he x c).imp fun p Θ' ⟨e3, e4⟩ => ⟨e4, _, e3, h⟩, fun ys e _ => by rw [e]; exact k⟩
/-! try -/
def tryD (hd : HE → Prop) (f : (HE → Prop) → Prop) : Prop := f hd
theorem tryD.go {hd : HE → Prop} {f : (HE → Prop) → Prop} (h : tryD hd f) : f hd := h
theorem joinD.go {S : Type} {f : (S → Prop) → Prop} {k : S → Prop} (h : joinD f k) : f k := h
theorem sps_WT {α β : Type} {ef : HE → Er} {args : α → List Vp} {r : Rep β} {m : α → DM β} {E : L2.St → XK} {ps : List Vp} {Q : β → Prop} {X : HE → Prop} (x : α) (h : m x Q X) (xx : ∀ z, X z → Kr fr Γ Θ (fun cls d σ H => E σ cls d H) (ef z)) (k : ∀ y, Q y → K (iz r y) Θ) (e : ps = args x := by rfl) : Sps fr Γ Θ (spA (preW ef args r m)) E ps K := sps_W x h k xx e
theorem mkWT {α β : Type} {ef : HE → Er} {args : α → List Vp} {r : Rep β} {m : α → DM β} {E : L2.St → XK} {ps : List Vp} {Q : β → Prop} {X : HE → Prop} (x : α) (h : m x Q X) (xx : ∀ z, X z → Kr fr Γ Θ (fun cls d σ H => E σ cls d H) (ef z)) (k : ∀ y, Q y → K (iz r y) Θ) (e : ps = args x := by rfl) : MkPr fr Γ Θ (preW ef args r m) E ps K := mkW x h k xx e
theorem cb_isD {Kf : PySem.W.Frag} {C D a d : Addr} {fs : List (Str × Vp)} {b : Bool} (T : IsC Kf C) (hk : PySem.W.kitOne Kf (.ref C) (.ref D) = some b) (k : K (iz zB b) Θ) : Cbs fr Θ (rIsD Kf (.ref C) (some d) a) [zExc a d fs, zAt D] K := fun F H vs ok hps Q q => by
  cases hps with
  | cons h1 hp => cases hp with
    | cons h2 hp => cases hp with
      | nil =>
        obtain ⟨rfl, us, h3, h4⟩ := h1
        have h2 : _ = V.ref D := h2
        subst h2
        exact ⟨C, d, us, _, .ref D, b, rfl, T, rfl, ok.fh _ _ h3, rfl, fun u hu => by cases hu; rfl, hk, q.go k ok rfl⟩
theorem cb_isDT {Kf : PySem.W.Frag} {C a d : Addr} {n : String} {fs : List (Str × Vp)} {b : Bool} (T : IsC Kf C) (hk : PySem.W.kitOne Kf (.ref C) (.type n) = some b) (k : K (iz zB b) Θ) : Cbs fr Θ (rIsD Kf (.ref C) (some d) a) [zExc a d fs, zTy n] K := fun F H vs ok hps Q q => by
  cases hps with
  | cons h1 hp => cases hp with
    | cons h2 hp => cases hp with
      | nil =>
        obtain ⟨rfl, us, h3, h4⟩ := h1
        have h2 : _ = V.ty n := h2
        subst h2
        exact ⟨C, d, us, _, .type n, b, rfl, T, rfl, ok.fh _ _ h3, rfl, fun u hu => by cases hu; rfl, hk, q.go k ok rfl⟩
theorem we_cA {D : Addr} (k : K (zAt D) Θ) : We fr Γ Θ (tC (.ref D)) K := we_c (p := zAt D) (fun _ => rfl) k
/-- a if c else b, each of which needs more -/
theorem we_ifX {α : Type} {r : Rep α} {c : TT} {ta tb : TE} {f : (α → Prop) → Prop} {k : α → Prop} (h : joinD f k) (w : f k → Wt fr Γ Θ c fun b Θ1 => Θ1 = Θ ∧ (b = true → We fr Γ Θ ta fun p Θ2 => Θ2 = Θ ∧ ∃ x, p = iz r x ∧ k x) ∧ (b = false → We fr Γ Θ tb fun p Θ2 => Θ2 = Θ ∧ ∃ x, p = iz r x ∧ k x)) (kk : ∀ x, k x → K (iz r x) Θ) : We fr Γ Θ (tIf c ta tb) K := we_ifD (w h) kk
instance {α β : Type} [DecidableEq α] [DecidableEq β] {r : Rep α} {s : Rep β} [d : QDat r] [e : QDat s] [ap : QApart r s] : QDat (yU r s) := ⟨fun x => match x with | .inl a => d.enc a | .inr b => e.enc b, max d.dep e.dep, fun {Kf F v x} h => by
  cases x with
  | inl a => exact d.dp h
  | inr b => exact e.dp h, fun {F v x} h => by
  cases x with
  | inl a => exact d.cl h
  | inr b => exact e.cl h, fun x => by
  cases x with
  | inl a => exact Nat.le_trans (d.dl a) (Nat.le_max_left _ _)
  | inr b => exact Nat.le_trans (e.dl b) (Nat.le_max_right _ _), fun x y => by
  cases x with
  | inl a => cases y with
    | inl b => exact (d.eq a b).trans (by simp)
    | inr b => exact (ap.ne a b).trans (by simp)
  | inr a => cases y with
    | inl b => exact (ap.ne' b a).trans (by simp)
    | inr b => exact (e.eq a b).trans (by simp)⟩
instance {α β γ : Type} [DecidableEq α] [DecidableEq β] [DecidableEq γ] {r : Rep α} {s : Rep β} {t : Rep γ} [d : QDat r] [e : QDat s] [f : QDat t] [a1 : QApart s t] [a2 : QApart r s] [a3 : QApart r t] : QApart r (yU s t) := ⟨fun x y => by
  cases y with
  | inl a => exact a2.ne x a
  | inr a => exact a3.ne x a, fun x y => by
  cases y with
  | inl a => exact a2.ne' x a
  | inr a => exact a3.ne' x a⟩
theorem Kr.le {W : WX} {e : Er} (h : Kr fr Γ' Θ W e) (g : GLe Γ Γ') : Kr fr Γ Θ W e := fun σ F H ok env d us hd hf => h σ F H ok (env.le g) d us hd hf
end
end L2

set_option Elab.async false
set_option linter.all false
set_option maxRecDepth 100000
set_option maxHeartbeats 4000000
/-! dicts of words compared; isinstance of one's own class; lists made by comprehensions, changed later; pop(i); stars in displays. -/
namespace L2
open PySem PySem.Spec PyProof.Rows PySem.HErr
/-! a way that is not gone -/
theorem pss_false {X : Cx} {ss : List Stmt} : PSs X ss (fun D σ H => False) := ⟨fun pins s σ H D I h => h.elim⟩
/-! == of dicts -/
theorem un200 {k : Nat} {A : Around} (r : Room k A) : A.units + 200 < cLine := by
  have := r.un
  omega
theorem glo_plan {K : PySem.W.Frag} {mg : Str → Option Value} {C : Addr} (T : PlanC K mg C) : Glo mg "Plan" (.ref C) := ⟨_, T.gC, rfl⟩
inductive DHits (K : PySem.W.Frag) (H : Hp) (ls : List (Key × V)) : List (Key × V) → Bool → Prop
  | nil : DHits K H ls [] true
  | miss {k : Key} {v : V} {r : List (Key × V)} : valV ls k = none → DHits K H ls ((k, v) :: r) false
  | hit {k : Key} {v y : V} {d e : PyData} {r : List (Key × V)} {b : Bool} : valV ls k = some y → Dp K H v d → Dp K H y e → SeqAt.shaped d = true → SeqAt.shaped e = true → DHits K H ls r b → DHits K H ls ((k, v) :: r) (PyData.eqv d e && b)
def rEqDD (K : PySem.W.Frag) : R2 := fun x y H Q => ∃ a b ks ls r, x = .ref a ∧ y = .ref b ∧ H a = some (.dK ks) ∧ H b = some (.dK ls) ∧ DHits K H ls ks r ∧ Q (.bl (ks.length == ls.length && r)) H
theorem dhits_keq {X : Cx} {pins : List (Addr × Obj)} {σ : L2.St} {H : Hp} {s : Shared} (I : Inv X pins σ H s) {A : Around} (hu : A.units + 64 < cLine) {ls : List (Key × V)} {vb : List (Key × Value)} (rb : KV ls vb) {ks : List (Key × V)} {r : Bool} (h : DHits X.K H ls ks r) :
    ∀ {va : List (Key × Value)}, KV ks va → PySem.W.KeqHits A s vb va r := by
  induction h with
  | nil =>
    intro va ra
    cases ra
    exact .nil
  | @miss k v r e =>
    intro va ra
    cases ra with
    | @cons _ q _ qs h t =>
      obtain ⟨k', v'⟩ := q
      obtain ⟨h1, h2⟩ := h
      have h1 : k = k' := h1
      subst h1
      have rr : RelO (valV ls k) (valueAt vb k) := rb.val k
      rw [e] at rr
      refine .miss ?_
      cases hq : valueAt vb k with
      | none => rfl
      | some z => rw [hq] at rr; cases rr
  | @hit k v y d e r b ev dv dy sd se _ ih =>
    intro va ra
    cases ra with
    | @cons _ q _ qs h t =>
      obtain ⟨k', v'⟩ := q
      obtain ⟨h1, h2⟩ := h
      have h1 : k = k' := h1
      subst h1
      have rr : RelO (some y) (valueAt vb k) := by rw [← ev]; exact rb.val k
      obtain ⟨y', hy, ry⟩ := rr.some_of
      obtain ⟨as, r1⟩ := Dp.reads I d v v' dv h2
      obtain ⟨bs, r2⟩ := Dp.reads I e y y' dy ry
      exact .hit hy (SeqAt.eqAt_reads d e A s v' y' as bs r1 r2 (SeqAt.canLay_of_shaped sd) (SeqAt.canLay_of_shaped se) (SeqAt.room_of_shaped sd hu)) (ih t)
theorem op_eqDD {X : Cx} {K : PySem.W.Frag} (hu : X.A.units + 200 < cLine) (hK : X.K = K := by rfl) : OpR X (compareOp .Eq) (rEqDD K) := by
  subst hK
  intro pins s σ H x y v u Q I rx ry h
  obtain ⟨a, b, ks, ls, r, rfl, rfl, ea, eb, hh, q⟩ := h
  obtain rfl : v = Value.ref a := rx
  obtain rfl : u = Value.ref b := ry
  obtain ⟨_, ya, va, ra, da⟩ := (show ObjOk X.prog X.w H s.heap a (.dK ks) from I.hok a _ ea)
  obtain ⟨_, yb, vb, rb, db⟩ := (show ObjOk X.prog X.w H s.heap b (.dK ls) from I.hok b _ eb)
  have l1 : ks.length = va.length := ra.length
  have l2 : ls.length = vb.length := rb.length
  refine PySem.W.keq_eq (knd := mixKind X.prog X.w) (r := r) ya yb da db (by omega) (fun _ => dhits_keq I (by show X.A.units + 1 + 64 < cLine; omega) rb hh ra) ?_
  rw [← l1, ← l2]
  exact ⟨.bl _, H, I, rfl, q⟩
section
variable {fr fr' : Fr} {Γ Γ' : Gam} {Θ Θ' : List Cel} {F F' H H' : Hp} {K : Vp → List Cel → Prop} {Qv : VK}
def dEq {α : Type} [DecidableEq α] (xs ys : List (Str × α)) : Bool := decide (xs.length = ys.length) && xs.all fun p => decide (getR ys p.1 = some p.2)
theorem kvs_val {α : Type} {r : Rep α} {kvs : List (Key × V)} {rows : List (Str × α)} (h : KVs r F kvs rows) (n : Str) : (getR rows n = none → valV kvs (Sum.inr n) = none) ∧ ∀ x, getR rows n = some x → ∃ v, valV kvs (Sum.inr n) = some v ∧ r.p F v x := by
  induction h with
  | nil => exact ⟨fun _ => rfl, (fun x e => nomatch e)⟩
  | @cons kv x ks xs h t ih =>
    obtain ⟨h1, h2⟩ := h
    by_cases e : x.1 = n
    · have e1 : kv.1 = Sum.inr n := by rw [h1, e]
      have e2 : getR (x :: xs) n = some x.2 := by unfold getR; rw [List.find?_cons, decide_eq_true e]; rfl
      rw [e2, valV_pos e1]
      exact ⟨(fun q => nomatch q), fun y hy => ⟨_, rfl, by cases hy; exact h2⟩⟩
    · have e1 : ¬ kv.1 = Sum.inr n := fun q => by rw [h1] at q; exact e (Sum.inr.inj q)
      have e2 : getR (x :: xs) n = getR xs n := by unfold getR; rw [List.find?_cons, decide_eq_false e]
      rw [e2, valV_neg e1]
      exact ih
theorem kvs_hits {Kf : PySem.W.Frag} {α : Type} [DecidableEq α] {r : Rep α} [d : QDat r] (hd : d.dep ≤ 64) {ls : List (Key × V)} {ys : List (Str × α)} (fh : Same F H) (hl : KVs r F ls ys) {ks : List (Key × V)} {xs : List (Str × α)} (hk : KVs r F ks xs) : DHits Kf H ls ks (xs.all fun p => decide (getR ys p.1 = some p.2)) := by
  induction hk with
  | nil => exact .nil
  | @cons kv x ks xs h t ih =>
    obtain ⟨k, v⟩ := kv
    obtain ⟨h1, h2⟩ := h
    have h1 : k = Sum.inr x.1 := h1
    subst h1
    obtain ⟨g1, g2⟩ := kvs_val hl x.1
    rw [List.all_cons]
    cases e : getR ys x.1 with
    | none =>
      rw [decide_eq_false (by simp), Bool.false_and]
      exact .miss (g1 e)
    | some y =>
      obtain ⟨u, hu, hr⟩ := g2 y e
      have eb : decide (some y = some x.2) = PyData.eqv (d.enc x.2) (d.enc y) := by
        rw [d.eq]
        by_cases q : x.2 = y
        · rw [q]; simp
        · rw [decide_eq_false q, decide_eq_false (fun z => q (Option.some.inj z).symm)]
      rw [eb]
      exact .hit hu ((d.dp h2).up fh) ((d.dp hr).up fh) (q_shape hd h2) (q_shape hd hr) ih
theorem oy_eqDD {Kf : PySem.W.Frag} {α : Type} [DecidableEq α] {r : Rep α} [d : QDat r] {xs ys : List (Str × α)} (hd : d.dep ≤ 64) (k : K (iz zB (dEq xs ys)) Θ) : Ops fr Θ (rEqDD Kf) (iz (yD r) xs) (iz (yD r) ys) K := fun F H v w ok ⟨⟨a, ks, h1, h2, h3⟩, h4⟩ ⟨⟨b, ls, g1, g2, g3⟩, g4⟩ Q q => by
  refine ⟨a, b, ks, ls, _, h1, g1, ok.fh _ _ h2, ok.fh _ _ g2, kvs_hits hd ok.fh g3 h3, ?_⟩
  have e : (ks.length == ls.length && xs.all fun p => decide (getR ys p.1 = some p.2)) = dEq xs ys := by
    unfold dEq
    rw [Paired.len h3, Paired.len g3]
    congr 1
  rw [e]
  exact q.go k ok rfl
/-! isinstance of one's own class -/
structure IsO (K : PySem.W.Frag) (C : Addr) : Prop where
  cl : Cls K C
  ha : PySem.W.findIn K (.ref C) "__class__" = some (some (.builtin "object.__class__"))
  hn : PySem.W.specialIn K (.builtin "object.__class__") "__get__" = some (some (.builtin "getset_descriptor.__get__"))
  htk : PySem.W.takesIn K (.builtin "object.__class__") = some true
  hm : PySem.W.mroIn K C (.type "object") = some true
theorem cb_isO {Kf : PySem.W.Frag} {C D : Addr} {p : Vp} {b : Bool} (T : IsO Kf C) (ic : InsC fr Θ p C) (hk : PySem.W.kitOne Kf (.ref C) (.ref D) = some b) (k : K (iz zB b) Θ) : Cbs fr Θ (rIsi Kf) [p, zAt D] K := fun F H vs ok hps Q q => by
  cases hps with
  | cons h1 hp => cases hp with
    | cons h2 hp => cases hp with
      | nil =>
        have h2 : _ = V.ref D := h2
        subst h2
        obtain ⟨a, dx, fs, rfl, h3⟩ := ic F H _ ok h1
        exact ⟨.ref a, .ref D, .ref C, .ref D, b, rfl, .own D, .base (.ins h3 T.cl T.ha T.hn T.htk T.hm), hk, q.go k ok rfl⟩
/-! a comprehension's list, one's own -/
theorem we_lcWN {α β : Type} {r : Rep α} {s : Rep β} {wi : TI} {g : TG} {tt : TT} {te : TE} {vs : List Nat}
    (w : Wi fr Γ Θ wi fun its Θ1 => ∃ (xs : List α) (f : α → (Option β → Prop) → Prop) (k : List β → Prop) (Γ2 : α → Gam), its = xs.map (iz r) ∧ Θ1 = Θ ∧ xs.length ≤ big ∧ (∀ x, TgR g vs (iz r x) (wipeG Γ vs) (Γ2 x)) ∧ compD xs [] f k ∧
      (∀ x c kx, f x kx → Wt fr (Γ2 x) (c :: Θ) tt fun b Θ1 => (b = true → We fr (Γ2 x) Θ1 te fun q Θ' => Θ' = c :: Θ ∧ ∃ y, q = iz s y ∧ kx (some y)) ∧ (b = false → Θ1 = c :: Θ ∧ kx none)) ∧
      (∀ ys, k ys → ys.length ≤ big → ∀ a, K (zAt a) (cY a s ys :: Θ))) : We fr Γ Θ (tLc wi g tt te vs) K := fun σ F H ok env Q q => by
  refine w σ F H ok env _ fun its Θ1 ⟨xs, f, k, Γ2, e1, e2, hl, tg, hc, hs, hk⟩ J F1 H1 s1 ok1 jok => ?_
  subst e1 e2
  intro D nD
  refine ⟨fun i m H' => m = xs.length - i ∧ i ≤ xs.length ∧ ∃ F2 ys, Same F1 F2 ∧ OkF fr (cL D s ys :: Θ1) F2 H' ∧ ys.length ≤ i ∧ compD (xs.drop i) ys f k, ⟨xs.length, by simp, Nat.zero_le _, F1, [], Same.refl _, ok1.mkOwn (c := cL D s []) nD rfl ⟨[], rfl, .nil⟩, Nat.le_refl _, hc⟩, ?_⟩
  rintro i m H' ⟨rfl, hi, F2, ys, s2, ok2, yl, py⟩
  obtain ⟨j1, j2⟩ := jok F2 H' s2 ok2.fh
  by_cases hlt : i < xs.length
  · have hx : xs[i]? = some xs[i] := List.getElem?_eq_getElem hlt
    generalize xs[i] = x at hx
    obtain ⟨jg, jy⟩ := j1 i (iz r x) (by rw [List.getElem?_map, hx]; rfl)
    refine .inr ⟨jg, fun H3 => ∃ F3 ys, Same F1 F3 ∧ OkF fr (cL D s ys :: Θ1) F3 H3 ∧ ys.length ≤ i + 1 ∧ compD (xs.drop (i + 1)) ys f k, fun H3 p => ⟨xs.length - (i + 1), by omega, rfl, hlt, p⟩, fun v H3 y => ?_⟩
    obtain ⟨F3, e1, e2, e3, e4, e5⟩ := jy v H3 y
    have ok3 := ok2.grow e2 e1 e3 e4
    have s3 := s2.trans e1
    have hd : xs.drop i = x :: xs.drop (i + 1) := by
      obtain ⟨hl, e⟩ := List.getElem?_eq_some_iff.mp hx
      rw [List.drop_eq_getElem_cons hl, e]
    rw [hd] at py
    refine tg x (L2.wipe σ vs) F3 H3 v ok3.fh ((env.mono (s1.trans s3)).wipe vs) e5 _ fun σ2 env2 hw => ⟨?_, ?_⟩
    · rw [hw, wipe_idem]
    · refine hs x _ _ py σ2 F3 H3 ok3 env2 _ fun b Θ2 ⟨k1, k2⟩ F4 H4 s4 ok4 => ?_
      cases b with
      | true =>
        rw [if_pos rfl]
        refine k1 rfl σ2 F4 H4 ok4 (env2.mono s4) _ fun p Θ3 ⟨e8, y, e9, hy⟩ u F5 H5 s5 ok5 hp => ?_
        subst e8 e9
        obtain ⟨_, ⟨o, h2, acc, rfl, h4⟩, _⟩ := ok5.ce _ (List.mem_cons_self ..)
        have ok6 := ok5.mut (i := 0) (c := cL D s ys) (c' := cL D s (ys ++ [y])) (o := .lst (acc ++ [u])) rfl rfl rfl ⟨_, rfl, PySem.Paired.snoc h4 hp⟩
        refine ⟨acc, h2, ?_, F5, ys ++ [y], (s3.trans s4).trans s5, ok6, by rw [List.length_append]; show _ + 1 ≤ _; omega, hy⟩
        rw [Paired.len h4]
        exact big_lt (by omega)
      | false =>
        rw [if_neg Bool.false_ne_true]
        obtain ⟨e8, hn⟩ := k2 rfl
        subst e8
        have hn : compD (xs.drop (i + 1)) (ys ++ []) f k := hn
        rw [List.append_nil] at hn
        exact ⟨F4, ys, s3.trans s4, ok4, by omega, hn⟩
  · have e : i = xs.length := by omega
    subst e
    rw [List.drop_length] at py
    obtain ⟨_, ⟨o, h2, acc, rfl, h4⟩, _⟩ := ok2.ce _ (List.mem_cons_self ..)
    have yb : ys.length ≤ big := by omega
    have ok3 := ok2.recell (j := 0) (c := cL D s ys) (c' := cY D s ys) rfl rfl rfl fun o ho => ⟨ho, yb⟩
    refine .inl ⟨by rw [List.length_map] at j2; exact j2, q _ _ (hk ys py yb D) _ F2 H' (s1.trans s2) ok3 rfl⟩
/-- without a test -/
theorem we_lcMN {α β : Type} {r : Rep α} {s : Rep β} {wi : TI} {g : TG} {te : TE} {vs : List Nat}
    (w : Wi fr Γ Θ wi fun its Θ1 => ∃ (xs : List α) (f : α → (β → Prop) → Prop) (k : List β → Prop) (Γ2 : α → Gam), its = xs.map (iz r) ∧ Θ1 = Θ ∧ xs.length ≤ big ∧ (∀ x, TgR g vs (iz r x) (wipeG Γ vs) (Γ2 x)) ∧ mapD xs [] f k ∧
      (∀ x c kx, f x kx → We fr (Γ2 x) (c :: Θ) te fun q Θ' => Θ' = c :: Θ ∧ ∃ y, q = iz s y ∧ kx y) ∧
      (∀ ys, k ys → ys.length ≤ big → ∀ a, K (zAt a) (cY a s ys :: Θ))) : We fr Γ Θ (tLc wi g tYes te vs) K :=
  we_lcWN (r := r) (s := s) fun σ F H ok env R q => w σ F H ok env R fun its Θ1 ⟨xs, f, k, Γ2, e1, e2, hl, tg, hm, he, hk⟩ => q its Θ1 ⟨xs, fun x k => f x fun y => k (some y), k, Γ2, e1, e2, hl, tg, by rw [← mapD_comp]; exact hm,
    fun x c kx h => wt_yes ⟨fun _ => (he x c _ h), (fun h => nomatch h)⟩, hk⟩
/-! stars in displays -/
theorem pvs_star {α : Type} {r : Rep α} {vs : List V} {xs : List α} (s2 : Same F F') (h : PVs r F vs xs) : Paired (fun (p : Vp) v => p.p F' v) (xs.map (iz r)) vs := by
  induction h with
  | nil => exact .nil
  | cons a _ ih => exact .cons (r.mono s2 a) ih
theorem wa_star {Kf : PySem.W.Frag} {te : TE} {t : TA} {K : List Vp → List Cel → Prop} (w : We fr Γ Θ te fun p Θ1 => ∃ (α : Type) (r : Rep α) (xs : List α), p = iz (yL r) xs ∧ Wa fr Γ Θ1 t fun ps Θ2 => K (xs.map (iz r) ++ ps) Θ2) : Wa fr Γ Θ (StX.tStar Kf te t) K := fun σ F H ok env Q q =>
  w σ F H ok env _ fun p Θ1 ⟨α, r, xs, e, k⟩ v F1 H1 s1 ok1 hp => by
    subst e
    obtain ⟨⟨a, vs, rfl, h2, h3⟩, h4⟩ := hp
    refine ⟨a, vs, rfl, .inr (SqL.of (ok1.fh _ _ h2)), k σ F1 H1 ok1 (env.mono s1) _ fun ps Θ2 kk us F2 H2 s2 ok2 hps => q _ Θ2 kk _ F2 H2 (s1.trans s2) ok2 ?_⟩
    exact Paired.app (pvs_star s2 h3) hps
/-! pop(i) -/
theorem we_popY {Kf : PySem.W.Frag} {α : Type} {r : Rep α} {xs : List α} {a : Addr} {i j : Nat} {te : TE} (hi : Γ[i]? = some (some (zAt a))) (hj : Θ[j]? = some (cY a r xs))
    (w : We fr Γ Θ te fun p Θ1 => ∃ n m x, p = iz zI n ∧ Θ1[j]? = some (cY a r xs) ∧ ixN xs.length n = some m ∧ xs[m]? = some x ∧ K (iz r x) (Θ1.set j (cY a r (xs.eraseIdx m)))) : We fr Γ Θ (tBM Kf "list" rPopAt (tVar i) (tCons te tNil)) K := by
  refine we_bm (we_var hi ⟨fun F H v ok hv => ?_, wa_cons (w.imp fun p Θ1 ⟨n, m, x, e, hj1, hm, hx, k⟩ => wa_nil ?_)⟩)
  · obtain ⟨_, ⟨o, h2, ⟨⟨vs, rfl, h4⟩, h5⟩⟩, _⟩ := ok.ce _ (List.mem_of_getElem? hj)
    have hv : v = .ref a := hv
    subst hv
    exact .inl ⟨rfl, vs, SqL.of h2⟩
  · subst e
    intro F H v vs ok hv hps Q q
    cases hps with
    | cons h1 hp => cases hp with
      | nil =>
        have h1 : _ = V.int n := h1
        subst h1
        obtain ⟨_, ⟨o, h2, ⟨⟨us, rfl, h4⟩, h5⟩⟩, _⟩ := ok.ce _ (List.mem_of_getElem? hj1)
        obtain ⟨u, hu, hr⟩ := Paired.get' h4 hx
        have hl := Paired.len h4
        have hb : big = 100000 := rfl
        have hm' : seqIndex? n us.length = some m ∧ -(2 ^ 63) ≤ n ∧ n < 2 ^ 63 := by
          rw [hl]
          unfold ixN at hm
          by_cases q0 : 0 ≤ n
          · rw [if_pos q0] at hm
            by_cases q1 : n < xs.length
            · first
                | (rw [if_pos q1] at hm; cases hm; exact ⟨seqIndex_of q0 q1, by omega, by omega⟩)
                | (rw [if_pos (by omega)] at hm; cases hm; exact ⟨seqIndex_of q0 q1, by omega, by omega⟩)
            · first
                | (rw [if_neg q1] at hm; cases hm)
                | (rw [if_neg (by omega)] at hm; cases hm)
          · rw [if_neg q0] at hm
            by_cases q1 : 0 ≤ n + xs.length
            · first
                | (rw [if_pos q1] at hm; cases hm; exact ⟨PySem.MeetsSeq.seqIndex_neg (by omega) (by omega), by omega, by omega⟩)
                | (rw [if_pos (by omega)] at hm; cases hm; exact ⟨PySem.MeetsSeq.seqIndex_neg (by omega) (by omega), by omega, by omega⟩)
            · first
                | (rw [if_neg q1] at hm; cases hm)
                | (rw [if_neg (by omega)] at hm; cases hm)
        have er : PVs r F (us.eraseIdx m) (xs.eraseIdx m) := by
          have : ∀ {us : List V} {xs : List α}, PVs r F us xs → ∀ m, PVs r F (us.eraseIdx m) (xs.eraseIdx m) := fun {us xs} h => by
            induction h with
            | nil => intro m; exact .nil
            | cons a b ih =>
              intro m
              cases m with
              | zero => exact b
              | succ m => exact .cons a (ih m)
          exact this h4 m
        have ok2 := ok.mut (c' := cY a r (xs.eraseIdx m)) (o := .lst (us.eraseIdx m)) hj1 rfl rfl ⟨⟨_, rfl, er⟩, Nat.le_trans (List.length_eraseIdx_le _ _) h5⟩
        exact ⟨a, us, n, m, u, hv, rfl, h2, hm'.2.1, hm'.2.2, hm'.1, hu, q _ _ k _ F _ (Same.refl F) ok2 hr⟩
end
end L2

set_option Elab.async false
set_option linter.all false
set_option maxRecDepth 100000
set_option maxHeartbeats 4000000
/-! Boxes of draws whose number of draws is bounded. -/
namespace L2
open PySem PySem.Spec PyProof.Rows PySem.HErr
def LIM : Nat := 10 ^ 60
def cBagC (N : Nat) (b l : Addr) : Cel := ⟨b, true, fun F o => ∃ (ns : List Int) (i c r : Int), 0 ≤ i ∧ i ≤ (N : Int) ∧ (cBg b l ns [i, c, r]).φ F o, fun e ⟨ns, i, c, r, h1, h2, h3⟩ => ⟨ns, i, c, r, h1, h2, (cBg b l ns [i, c, r]).mono e h3⟩, fun ⟨ns, i, c, r, _, _, h⟩ e => (cBg b l ns [i, c, r]).nt h e⟩
def CelLe (c c' : Cel) : Prop := c'.a = c.a ∧ c'.own = c.own ∧ ∀ F o, c.φ F o → c'.φ F o
theorem CelLe.refl (c : Cel) : CelLe c c := ⟨rfl, rfl, fun _ _ h => h⟩
theorem CelLe.bag {N M : Nat} {b l : Addr} (h : N ≤ M) : CelLe (cBagC N b l) (cBagC M b l) := ⟨rfl, rfl, fun F o ⟨ns, i, c, r, h1, h2, h3⟩ => ⟨ns, i, c, r, h1, by omega, h3⟩⟩
def CLe (Θ Θ' : List Cel) : Prop := Paired CelLe Θ Θ'
theorem CLe.refl : ∀ Θ : List Cel, CLe Θ Θ
  | [] => .nil
  | c :: Θ => .cons (.refl c) (CLe.refl Θ)
theorem CLe.mem {Θ Θ' : List Cel} (h : CLe Θ Θ') {c' : Cel} (hc : c' ∈ Θ') : ∃ c ∈ Θ, CelLe c c' := by
  unfold CLe at h
  induction h with
  | nil => cases hc
  | cons a _ ih =>
    rcases List.mem_cons.mp hc with rfl | hc
    · exact ⟨_, List.mem_cons_self .., a⟩
    · obtain ⟨c, h1, h2⟩ := ih hc
      exact ⟨c, List.mem_cons_of_mem _ h1, h2⟩
theorem CLe.map {Θ Θ' : List Cel} (h : CLe Θ Θ') : Θ'.map Cel.a = Θ.map Cel.a := by
  unfold CLe at h
  induction h with
  | nil => rfl
  | cons a _ ih => rw [List.map_cons, List.map_cons, ih, a.1]
abbrev nat_id := Nat
section
variable {fr fr' : Fr} {Γ Γ' : Gam} {Θ Θ' : List Cel} {F F' H H' : Hp} {K : Vp → List Cel → Prop} {Qv : VK}
theorem OkF.cle (k : OkF fr Θ F H) (h : CLe Θ Θ') : OkF fr Θ' F H := ⟨k.fh, k.f0, k.nw, k.h0, k.al, by rw [h.map]; exact k.nd, fun c' hc => by
  obtain ⟨c, h1, h2, h3, h4⟩ := h.mem hc
  obtain ⟨g1, ⟨o, g2, g3⟩, g4⟩ := k.ce c h1
  rw [h2, h3]
  exact ⟨g1, ⟨o, g2, h4 _ _ g3⟩, g4⟩⟩
theorem Kn.cle {P : L2.St → Hp → Prop} (k : Kn fr Γ Θ' P) (h : CLe Θ Θ') : Kn fr Γ Θ P := fun σ F H ok env => k σ F H (ok.cle h) env
theorem Rt.cle {rt : VK} {p : Vp} (k : Rt fr Θ' rt p) (h : CLe Θ Θ') : Rt fr Θ rt p := fun v F H ok hv => k v F H (ok.cle h) hv
theorem perm_set : ∀ {Θ : List Cel} {j : Nat} {c : Cel}, Θ[j]? = some c → ∃ Θr, Θ.Perm (c :: Θr) ∧ ∀ c', (Θ.set j c').Perm (c' :: Θr)
  | a :: Θ, 0, c, h => by
    have h : a = c := by simpa using h
    subst h
    exact ⟨Θ, .refl _, fun c' => .refl _⟩
  | a :: Θ, j + 1, c, h => by
    obtain ⟨Θr, h1, h2⟩ := perm_set (Θ := Θ) (j := j) (c := c) (by simpa using h)
    refine ⟨a :: Θr, (h1.cons a).trans (.swap _ _ _), fun c' => ?_⟩
    rw [List.set_cons_succ]
    exact ((h2 c').cons a).trans (.swap _ _ _)
def preKN (cost : Nat) (q : PreB) : PreC := fun ps Θ out err => ∃ b l N qs o, ps = zAt b :: qs ∧ Θ = [cBagC N b l] ∧ N + cost ≤ LIM ∧ q qs o ∧ out = (fun p Θ' => o p ∧ Θ' = [cBagC (N + cost) b l]) ∧ err = fun _ _ => False
theorem sps_KN {α β : Type} {args : α → List Vp} {r : Rep β} {m : α → DM β} {E : L2.St → XK} {ps : List Vp} {Q : β → Prop} {b l : Addr} {j N cost : Nat} (hj : Θ[j]? = some (cBagC N b l)) (hN : N + cost ≤ LIM) (x : α) (h : m x Q noX) (k : ∀ y, Q y → K (iz r y) (Θ.set j (cBagC (N + cost) b l))) (e : ps = zAt b :: args x := by rfl) : Sps fr Γ Θ (spC (preKN cost (preBW args r m))) E ps K := fun σ F H vs ok env hps Q' kq => by
  subst e
  obtain ⟨Θr, pm, pm2⟩ := perm_set hj
  have ok1 := ok.perm pm
  exact ⟨F, _, [cBagC N b l], _, _, ok1.fh, ok1.cellsAt, hps, ⟨b, l, N, _, _, rfl, rfl, hN, ⟨x, Q, rfl, h, rfl⟩, rfl, rfl⟩, fun p Θ' ⟨⟨y, hy, ep⟩, hΘ⟩ v F' H' ef hv => by
    subst hΘ ep
    exact kq _ _ (k y hy) v F' H' ef.ff ((ok1.eff ef).perm (pm2 _).symm) hv, fun e Θ' he => he.elim⟩
def RetKN {β : Type} (fr : Fr) (N : Nat) (b l : Addr) (Qv : VK) (r : Rep β) (Q : β → Prop) : Prop := ∀ y, Q y → ∀ Θ M, M ≤ N → cBagC M b l ∈ Θ → Rt fr Θ Qv (iz r y)
theorem RetKN.fine {β : Type} {N : Nat} {b l : Addr} {r : Rep β} {Q : β → Prop} (h : RetKN fr N b l Qv r Q) (le : FrLe fr fr') : RetKN fr' N b l Qv r Q := fun y hy Θ M hM hc => (h y hy Θ M hM hc).fine le
theorem kn_bagC {N : Nat} {b l : Addr} {j : Nat} {P : L2.St → Hp → Prop} (hj : Θ[j]? = some (cBagC N b l)) (k : ∀ (ns : List Int) (i c r : Int), 0 ≤ i → i ≤ (N : Int) → Kn fr Γ (Θ.set j (cBg b l ns [i, c, r])) P) : Kn fr Γ Θ P := fun σ F H ok env => by
  obtain ⟨_, ⟨o, h2, ns, i, c, r, h3, h4, h5⟩, _⟩ := ok.ce _ (List.mem_of_getElem? hj)
  obtain ⟨h6, h7, h8⟩ := h5
  subst h6
  have := ok.mut (c' := cBg b l ns [i, c, r]) (o := .lst (.ref l :: [i, c, r].map V.int)) hj rfl rfl ⟨rfl, h7, h8⟩
  have e : upd H (cBagC N b l).a (.lst (.ref l :: [i, c, r].map V.int)) = H := by
    funext a
    by_cases q : a = (cBagC N b l).a
    · rw [q, upd_same, h2]
    · rw [upd_ne q]
  rw [e] at this
  exact k ns i c r h3 h4 σ F H this env
theorem rt_bagC {N : Nat} {b l : Addr} {j : Nat} {ns : List Int} {i c r : Int} {rt : VK} {p : Vp} (hj : Θ[j]? = some (cBg b l ns [i, c, r])) (h1 : 0 ≤ i) (h2 : i ≤ (N : Int)) (k : Rt fr (Θ.set j (cBagC N b l)) rt p) : Rt fr Θ rt p := fun v F H ok hv => k v F H (ok.recell hj rfl rfl fun o ho => ⟨ns, i, c, r, h1, h2, ho⟩) hv
def preBagC (Kf : PySem.W.Frag) : PreN := fun ps out err => ∃ ns, ps = [iz (zScr Kf) ns] ∧ out = (fun p Θn => ∃ b l, p = zAt b ∧ Θn = [cBagC 0 b l]) ∧ err = noErr
theorem we_bagC {t : TA} (w : Wa fr Γ Θ t fun ps Θ1 => ∃ (ns : List Int) (c r : Int), ps = [iz (yL zI) ns, iz zI 0, iz zI c, iz zI r] ∧ ∀ b l, K (zAt b) (cBagC 0 b l :: Θ1)) : We fr Γ Θ (tLst t) K := fun σ F H ok env Q q =>
  w σ F H ok env _ fun ps Θ1 ⟨ns, c, r, e, k⟩ vs F1 H1 s1 ok1 hps => by
    subst e
    cases hps with
    | cons hl hi =>
      obtain ⟨⟨l, us, rfl, g2, g3⟩, g4⟩ := hl
      have e1 := pvs_I g3
      subst e1
      have e2 := pvs_I (pvs_map (r := zI) (xs := [0, c, r]) hi)
      subst e2
      refine ⟨?_, fun p np => q _ _ (k p l) _ F1 _ s1 (ok1.mkOwn (c := cBagC 0 p l) np rfl ⟨ns, 0, c, r, by decide, by decide, rfl, g2, g4⟩) rfl⟩
      exact Nat.le_of_lt (small1000 (show 4 ≤ 1000 by decide))
/-! loops, joins, comprehensions -/
theorem kn_forK {wi : TI} {g : TG} {tb : TS} {D : Ends} {α S : Type} {r : Rep α} (G : S → Gam) (T : Nat → S → List Cel) (Te : S → List Cel) (s0 : S)
    (w : Wi fr Γ Θ wi fun its Θ1 => ∃ (xs : List α) (body : α → S → (S → Prop) → (S → Prop) → Prop) (after : S → Prop) (vs : List Nat) (Γ2 : α → S → Gam), its = xs.map (iz r) ∧ CLe Θ1 (T 0 s0) ∧ GLe Γ (G s0) ∧ (∀ x s, TgR g vs (iz r x) (G s) (Γ2 x s)) ∧ forD xs s0 body after ∧
      (∀ fr', FrLe fr fr' → ∀ i x s nx M, i < xs.length → (∀ s' Γ' Θ', nx s' → GLe Γ' (G s') → CLe Θ' (T (i + 1) s') → Kn fr' Γ' Θ' M) → (∀ s' Γ' Θ', after s' → GLe Γ' (G s') → CLe Θ' (Te s') → Kn fr' Γ' Θ' D.nx) → body x s nx after → Kn fr' (Γ2 x s) (T i s) (tb { D with nx := M, ct := M, bk := D.nx })) ∧
      (∀ s, CLe (T xs.length s) (Te s)) ∧ (∀ s, after s → Kn fr (G s) (Te s) D.nx)) : Kn fr Γ Θ (tFor wi g tb D) :=
  kn_for fun σ F H ok env R q => w σ F H ok env (fun J H' => R J H') fun its Θ1 ⟨xs, body, after, vs, Γ2, e1, e2, l0, tg, hf, hs, hte, hd⟩ J F1 H1 s1 ok1 jok => q its (T 0 s0) (by
    subst e1
    refine ⟨fun i Γ1 Θ2 => ∃ s, Γ1 = G s ∧ Θ2 = T i s ∧ forD (xs.drop i) s body after, ⟨G s0, l0, s0, rfl, rfl, hf⟩, fun fr' le i p Γ1 Θ2 hi ⟨s, eg, et, h⟩ => ?_, fun Γ1 Θ2 ⟨s, eg, et, h⟩ => ?_⟩
    · subst eg et
      obtain ⟨x, hx, rfl⟩ := get_izs hi
      have hlt : i < xs.length := (List.getElem?_eq_some_iff.mp hx).1
      rw [drop_at hx] at h
      refine ⟨vs, _, tg x s, hs fr' le i x s _ _ hlt (fun s' Γ' Θ' hn gl e => ?_) (fun s' Γ' Θ' hn gl e => ?_) h⟩
      · exact Kn.cle (kn_mid ⟨G s', gl, s', rfl, rfl, hn⟩) e
      · exact Kn.cle (((hd s' hn).fine le).le gl) e
    · subst eg et
      rw [List.length_map, List.drop_length] at h
      rw [List.length_map]
      exact (hd s h).cle (hte s)) J F1 H1 s1 (ok1.cle e2) jok
theorem kn_cutK {t u : TS} {D : Ends} {S : Type} (G : S → Gam) (T : S → List Cel) {f : (S → Prop) → Prop} {k : S → Prop} (h : joinD f k)
    (hb : ∀ M, (∀ s' Γ' Θ', k s' → GLe Γ' (G s') → CLe Θ' (T s') → Kn fr Γ' Θ' M) → f k → Kn fr Γ Θ (t { D with nx := M })) (hr : ∀ s, k s → Kn fr (G s) (T s) (u D)) : Kn fr Γ Θ (C8.tCut t u D) :=
  kn_cut (fun Γ Θ => ∃ s, Γ = G s ∧ Θ = T s ∧ k s) (hb _ (fun s' Γ' Θ' hn gl e => Kn.cle (kn_mid ⟨G s', gl, s', rfl, rfl, hn⟩) e) h) fun Γ Θ ⟨s, e1, e2, hk⟩ => by
    subst e1 e2
    exact hr s hk
theorem we_lcWK {α β : Type} {r : Rep α} {s : Rep β} {wi : TI} {g : TG} {tt : TT} {te : TE} {vs : List Nat}
    (w : Wi fr Γ Θ wi fun its Θ1 => ∃ (xs : List α) (f : α → (Option β → Prop) → Prop) (k : List β → Prop) (Γ2 : α → Gam) (T : Nat → List Cel) (Te : List Cel), its = xs.map (iz r) ∧ CLe Θ1 (T 0) ∧ xs.length ≤ big ∧ (∀ x, TgR g vs (iz r x) (wipeG Γ vs) (Γ2 x)) ∧ compD xs [] f k ∧
      (∀ i x c kx, i < xs.length → f x kx → Wt fr (Γ2 x) (c :: T i) tt fun b Θ1 => (b = true → We fr (Γ2 x) Θ1 te fun q Θ' => CLe Θ' (c :: T (i + 1)) ∧ ∃ y, q = iz s y ∧ kx (some y)) ∧ (b = false → CLe Θ1 (c :: T (i + 1)) ∧ kx none)) ∧ CLe (T xs.length) Te ∧
      (∀ ys, k ys → ys.length ≤ big → K (iz (yL s) ys) Te)) : We fr Γ Θ (tLc wi g tt te vs) K := fun σ F H ok env Q q => by
  refine w σ F H ok env _ fun its Θ1 ⟨xs, f, k, Γ2, T, Te, e1, e2, hl, tg, hc, hs, hte, hk⟩ J F1 H1 s1 ok1 jok => ?_
  subst e1
  have ok1 := ok1.cle e2
  intro D nD
  refine ⟨fun i m H' => m = xs.length - i ∧ i ≤ xs.length ∧ ∃ F2 ys, Same F1 F2 ∧ OkF fr (cL D s ys :: T i) F2 H' ∧ ys.length ≤ i ∧ compD (xs.drop i) ys f k, ⟨xs.length, by simp, Nat.zero_le _, F1, [], Same.refl _, ok1.mkOwn (c := cL D s []) nD rfl ⟨[], rfl, .nil⟩, Nat.le_refl _, hc⟩, ?_⟩
  rintro i m H' ⟨rfl, hi, F2, ys, s2, ok2, yl, py⟩
  obtain ⟨j1, j2⟩ := jok F2 H' s2 ok2.fh
  by_cases hlt : i < xs.length
  · have hx : xs[i]? = some xs[i] := List.getElem?_eq_getElem hlt
    generalize xs[i] = x at hx
    obtain ⟨jg, jy⟩ := j1 i (iz r x) (by rw [List.getElem?_map, hx]; rfl)
    refine .inr ⟨jg, fun H3 => ∃ F3 ys, Same F1 F3 ∧ OkF fr (cL D s ys :: T (i + 1)) F3 H3 ∧ ys.length ≤ i + 1 ∧ compD (xs.drop (i + 1)) ys f k, fun H3 p => ⟨xs.length - (i + 1), by omega, rfl, hlt, p⟩, fun v H3 y => ?_⟩
    obtain ⟨F3, e1, e2, e3, e4, e5⟩ := jy v H3 y
    have ok3 := ok2.grow e2 e1 e3 e4
    have s3 := s2.trans e1
    have hd : xs.drop i = x :: xs.drop (i + 1) := by
      obtain ⟨hl, e⟩ := List.getElem?_eq_some_iff.mp hx
      rw [List.drop_eq_getElem_cons hl, e]
    rw [hd] at py
    refine tg x (L2.wipe σ vs) F3 H3 v ok3.fh ((env.mono (s1.trans s3)).wipe vs) e5 _ fun σ2 env2 hw => ⟨?_, ?_⟩
    · rw [hw, wipe_idem]
    · refine hs i x _ _ hlt py σ2 F3 H3 ok3 env2 _ fun b Θ2 ⟨k1, k2⟩ F4 H4 s4 ok4 => ?_
      cases b with
      | true =>
        rw [if_pos rfl]
        refine k1 rfl σ2 F4 H4 ok4 (env2.mono s4) _ fun p Θ3 ⟨e8, y, e9, hy⟩ u F5 H5 s5 ok5 hp => ?_
        subst e9
        have ok5 := ok5.cle e8
        obtain ⟨_, ⟨o, h2, acc, rfl, h4⟩, _⟩ := ok5.ce _ (List.mem_cons_self ..)
        have ok6 := ok5.mut (i := 0) (c := cL D s ys) (c' := cL D s (ys ++ [y])) (o := .lst (acc ++ [u])) rfl rfl rfl ⟨_, rfl, PySem.Paired.snoc h4 hp⟩
        refine ⟨acc, h2, ?_, F5, ys ++ [y], (s3.trans s4).trans s5, ok6, by rw [List.length_append]; show _ + 1 ≤ _; omega, hy⟩
        rw [Paired.len h4]
        exact big_lt (by omega)
      | false =>
        rw [if_neg Bool.false_ne_true]
        obtain ⟨e8, hn⟩ := k2 rfl
        have ok4 := ok4.cle e8
        have hn : compD (xs.drop (i + 1)) (ys ++ []) f k := hn
        rw [List.append_nil] at hn
        exact ⟨F4, ys, s3.trans s4, ok4, by omega, hn⟩
  · have e : i = xs.length := by omega
    subst e
    rw [List.drop_length] at py
    obtain ⟨_, ⟨o, h2, acc, rfl, h4⟩, _⟩ := ok2.ce _ (List.mem_cons_self ..)
    have ok3 := (ok2.frz (i := 0) (c := cL D s ys) rfl rfl h2).cle hte
    have sD : Same F2 (upd F2 D (.lst acc)) := same_upd (ok2.ce _ (List.mem_cons_self ..)).1
    have yb : ys.length ≤ big := by omega
    refine .inl ⟨by rw [List.length_map] at j2; exact j2, q _ _ (hk ys py yb) _ _ H' ((s1.trans s2).trans sD) ok3 ⟨⟨D, acc, rfl, upd_same, Paired.imp2 (fun _ _ h => s.mono sD h) h4⟩, yb⟩⟩
/-- without a test -/
theorem we_lcMK {α β : Type} {r : Rep α} {s : Rep β} {wi : TI} {g : TG} {te : TE} {vs : List Nat}
    (w : Wi fr Γ Θ wi fun its Θ1 => ∃ (xs : List α) (f : α → (β → Prop) → Prop) (k : List β → Prop) (Γ2 : α → Gam) (T : Nat → List Cel) (Te : List Cel), its = xs.map (iz r) ∧ CLe Θ1 (T 0) ∧ xs.length ≤ big ∧ (∀ x, TgR g vs (iz r x) (wipeG Γ vs) (Γ2 x)) ∧ mapD xs [] f k ∧
      (∀ i x c kx, i < xs.length → f x kx → We fr (Γ2 x) (c :: T i) te fun q Θ' => CLe Θ' (c :: T (i + 1)) ∧ ∃ y, q = iz s y ∧ kx y) ∧ CLe (T xs.length) Te ∧
      (∀ ys, k ys → ys.length ≤ big → K (iz (yL s) ys) Te)) : We fr Γ Θ (tLc wi g tYes te vs) K :=
  we_lcWK (r := r) (s := s) fun σ F H ok env R q => w σ F H ok env R fun its Θ1 ⟨xs, f, k, Γ2, T, Te, e1, e2, hl, tg, hm, he, hte, hk⟩ => q its Θ1 ⟨xs, fun x k => f x fun y => k (some y), k, Γ2, T, Te, e1, e2, hl, tg, by rw [← mapD_comp]; exact hm,
    fun i x c kx hi h => wt_yes ⟨fun _ => (he i x c _ hi h), (fun h => nomatch h)⟩, hte, hk⟩
end
section
variable {P : Program} {w : World} {K : PySem.W.Frag} {mg : Str → Option Value} {base : Heap} {x m qual : Str} {C : Addr} {st : Stmt} {N ps : List Str} {k : Nat} {α β : Type} {ef : HE → Er} {args : α → List Vp} {r : Rep β} {md : α → DM β} {cost : Nat}
theorem Src.okKN (F : Src K mg x st ps) (S : FnScope N ps (defScope st)) (len : ∀ x, (args x).length + 1 = ps.length)
    (hbody : ∀ (f : Addr) (cdv : Value) (A : Around) (outer : List Env) (s : Shared) (H : Hp) (E : XK) (b l : Addr) (n : Nat) (a : α) (Q : β → Prop), n + cost ≤ LIM → Room k (A.deeper (envOfC x (defScope st) s.heap.objs.size f cdv)) → md a Q noX →
      ∃ t, PSs (cxOf CX0 P w K mg base N x (defScope st) f cdv A outer s H E).nox (defBody st) t ∧ ∀ fr Qv, RetKN fr (n + cost) b l Qv r Q → Kn fr (envOf N (zAt b :: args a)) [cBagC n b l] (t { nx := fun _ H' => Qv .non H', rt := Qv })) : Def P w K mg base CX0 (k + 1) x ps (spC (preKN cost (preBW args r md))) :=
  F.okC S (fun qs Θ out err ⟨b, l, n, qs', o, h1, h2, _, ⟨a, Q, e, _⟩, _⟩ => ⟨by rw [h1, e]; exact len a, fun c hc => by rw [h2] at hc; rw [List.mem_singleton.mp hc]; rfl⟩) fun f cdv A outer s H E qs Θ out err hr ⟨b, l, n, qs', o, e1, e2, hn, ⟨a, Q, e3, h, e4⟩, e5, e6⟩ => by
    subst e1 e2 e3 e4 e5 e6
    obtain ⟨t, ht, hk⟩ := hbody f cdv A outer s H E b l n a Q hn hr h
    refine ⟨t, ht, fun fr Qv hret => hk fr Qv fun y hy Θ M hM hc v F' H' ok hv => ?_⟩
    obtain ⟨Θr, pm⟩ := perm_of_mem hc
    exact hret _ [cBagC (n + cost) b l] ⟨⟨y, hy, rfl⟩, rfl⟩ rfl (cBagC (n + cost) b l :: Θr) Θr (.refl _) v F' H' ((ok.perm pm).cle (.cons (.bag hM) (CLe.refl Θr))) hv
end
end L2

set_option Elab.async false
set_option linter.all false
set_option maxRecDepth 100000
set_option maxHeartbeats 4000000
/-! Dicts whose keys are tuples of ints. -/
namespace L2
open PySem PySem.Spec PyProof.Rows PySem.HErr
def keyT (k : List Int) : List Key := k.map Sum.inl
theorem keyT_inj {k l : List Int} (h : keyT k = keyT l) : k = l := by
  unfold keyT at h
  exact (List.map_inj_right (fun a b e => Sum.inl.inj e)).mp h
theorem keyT_kV (k : List Int) : (keyT k).map kV = k.map V.int := by
  unfold keyT
  rw [List.map_map]
  rfl
def KVT {α : Type} (r : Rep α) (F : Hp) (kvs : List (List Key × V)) (rows : List (List Int × α)) : Prop := Paired (fun (kv : List Key × V) (x : List Int × α) => kv.1 = keyT x.1 ∧ r.p F kv.2 x.2 ∧ x.1.length ≤ big) kvs rows
theorem KVT.mono {α : Type} {r : Rep α} {F F' : Hp} {kvs : List (List Key × V)} {rows : List (List Int × α)} (h : KVT r F kvs rows) (e : Same F F') : KVT r F' kvs rows := Paired.imp2 (fun _ _ ⟨h1, h2, h3⟩ => ⟨h1, r.mono e h2, h3⟩) h
def yDT {α : Type} (r : Rep α) : Rep (List (List Int × α)) := ⟨fun F v rows => (∃ a o kvs, v = .ref a ∧ F a = some (.frz o (.dT kvs)) ∧ KVT r F kvs rows) ∧ rows.length ≤ big, fun e ⟨⟨a, o, kvs, h1, h2, h3⟩, h4⟩ => ⟨⟨a, o, kvs, h1, e _ _ h2, h3.mono e⟩, h4⟩⟩
def cYT {α : Type} (a : Addr) (r : Rep α) (rows : List (List Int × α)) : Cel := ⟨a, true, fun F o => (∃ kvs, o = .dT kvs ∧ KVT r F kvs rows) ∧ rows.length ≤ big, fun e ⟨⟨kvs, h1, h2⟩, h3⟩ => ⟨⟨kvs, h1, h2.mono e⟩, h3⟩, fun h e => by subst e; simp at h⟩
def getT {α : Type} (rows : List (List Int × α)) (n : List Int) : Option α := (rows.find? fun x => decide (x.1 = n)).map (·.2)
def putT {α : Type} (rows : List (List Int × α)) (n : List Int) (x : α) : List (List Int × α) := if n ∈ rows.map (·.1) then rows.map fun y => if y.1 = n then (y.1, x) else y else rows ++ [(n, x)]
section
variable {fr fr' : Fr} {Γ Γ' : Gam} {Θ Θ' : List Cel} {F F' H H' : Hp} {K : Vp → List Cel → Prop} {Qv : VK}
theorem KVT.val {α : Type} {r : Rep α} {kvs : List (List Key × V)} {rows : List (List Int × α)} (h : KVT r F kvs rows) (n : List Int) : (getT rows n = none → valV kvs (keyT n) = none) ∧ ∀ x, getT rows n = some x → ∃ v, valV kvs (keyT n) = some v ∧ r.p F v x := by
  unfold KVT at h
  induction h with
  | nil => exact ⟨fun _ => rfl, (fun x e => nomatch e)⟩
  | @cons kv x ks xs h t ih =>
    obtain ⟨h1, h2, _⟩ := h
    by_cases e : x.1 = n
    · have e1 : kv.1 = keyT n := by rw [h1, e]
      have e2 : getT (x :: xs) n = some x.2 := by unfold getT; rw [List.find?_cons, decide_eq_true e]; rfl
      rw [e2, valV_pos e1]
      exact ⟨(fun q => nomatch q), fun y hy => ⟨_, rfl, by cases hy; exact h2⟩⟩
    · have e1 : ¬ kv.1 = keyT n := fun q => by rw [h1] at q; exact e (keyT_inj q)
      have e2 : getT (x :: xs) n = getT xs n := by unfold getT; rw [List.find?_cons, decide_eq_false e]
      rw [e2, valV_neg e1]
      exact ih
theorem KVT.some {α : Type} {r : Rep α} {kvs : List (List Key × V)} {rows : List (List Int × α)} (h : KVT r F kvs rows) (n : List Int) : (valV kvs (keyT n)).isSome = (getT rows n).isSome := by
  obtain ⟨h1, h2⟩ := h.val n
  cases e : getT rows n with
  | none => rw [h1 e]; rfl
  | some x =>
    obtain ⟨v, h3, _⟩ := h2 x e
    rw [h3]; rfl
theorem KVT.put {α : Type} {r : Rep α} {kvs : List (List Key × V)} {rows : List (List Int × α)} {n : List Int} {x : α} {u : V} (h : KVT r F kvs rows) (hu : r.p F u x) (hl : n.length ≤ big) : KVT r F (putK kvs (keyT n) u) (putT rows n x) := by
  have hk : (kvs.any fun kv => decide (kv.1 = keyT n)) = decide (n ∈ rows.map (·.1)) := by
    unfold KVT at h
    induction h with
    | nil => rfl
    | cons a b ih =>
      rename_i kv y kvs rows
      rw [List.any_cons, ih, a.1, List.map_cons]
      by_cases e : y.1 = n
      · rw [decide_eq_true (by rw [e]), Bool.true_or, decide_eq_true (by rw [e]; exact List.mem_cons_self ..)]
      · rw [decide_eq_false (fun q => e (keyT_inj q)), Bool.false_or]
        by_cases e2 : n ∈ rows.map (·.1)
        · rw [decide_eq_true e2, decide_eq_true (List.mem_cons_of_mem _ e2)]
        · rw [decide_eq_false e2, decide_eq_false fun q => (List.mem_cons.mp q).elim (fun q => e q.symm) e2]
  unfold putK putT
  by_cases e : n ∈ rows.map (·.1)
  · rw [if_pos e, if_pos (by rw [hk]; exact decide_eq_true e)]
    clear hk e
    unfold KVT at h ⊢
    induction h with
    | nil => exact .nil
    | cons a b ih =>
      refine .cons ?_ ih
      rename_i kv y kvs rows
      dsimp only
      by_cases e : y.1 = n
      · rw [if_pos e, if_pos (by rw [a.1, e])]
        exact ⟨a.1, hu, a.2.2⟩
      · rw [if_neg e, if_neg (fun q => e (keyT_inj (a.1.symm.trans q)))]
        exact a
  · rw [if_neg e, if_neg (by rw [hk]; simpa using e)]
    exact PySem.Paired.snoc h ⟨rfl, hu, hl⟩
theorem putT_len {α : Type} (rows : List (List Int × α)) (n : List Int) (x : α) : (putT rows n x).length ≤ rows.length + 1 := by
  unfold putT
  split
  · rw [List.length_map]; omega
  · rw [List.length_append]; exact Nat.le_refl _
/-- p is a dict with these rows -/
def DicT {α : Type} (fr : Fr) (Θ : List Cel) (p : Vp) (r : Rep α) (rows : List (List Int × α)) : Prop := ∀ F H v, OkF fr Θ F H → p.p F v → (∃ a kvs, v = .ref a ∧ Rd H a (.dT kvs) ∧ KVT r F kvs rows) ∧ rows.length ≤ big
theorem dt_D {α : Type} {r : Rep α} {rows : List (List Int × α)} : DicT fr Θ (iz (yDT r) rows) r rows := fun F H v ok ⟨⟨a, o, kvs, h1, h2, h3⟩, h4⟩ => ⟨⟨a, kvs, h1, .inr ⟨o, ok.fh _ _ h2⟩, h3⟩, h4⟩
theorem dt_C {α : Type} {r : Rep α} {rows : List (List Int × α)} {a : Addr} {j : Nat} (hj : Θ[j]? = some (cYT a r rows)) : DicT fr Θ (zAt a) r rows := fun F H v ok hv => by
  obtain ⟨_, ⟨o, h2, ⟨⟨kvs, rfl, h4⟩, h5⟩⟩, _⟩ := ok.ce _ (List.mem_of_getElem? hj)
  exact ⟨⟨a, kvs, hv, .inl h2, h4⟩, h5⟩
theorem key_at {k : List Int} {v : V} (fh : Same F H) (h : (iz (yT zI) k).p F v) : ∃ b, v = .ref b ∧ H b = some (.tup ((keyT k).map kV)) := by
  obtain ⟨⟨b, vs, h1, h2, h3⟩, _⟩ := h
  have e := pvs_I h3
  subst e
  exact ⟨b, h1, by rw [keyT_kV]; exact fh _ _ h2⟩
theorem wt_dgetT {td ty : TE} (w : We fr Γ Θ td fun p Θ1 => We fr Γ Θ1 ty fun q Θ2 => ∃ (α : Type) (r : Rep α) (rows : List (List Int × α)) (n : List Int) (x : α), DicT fr Θ2 p r rows ∧ q = iz (yT zI) n ∧ getT rows n = some x ∧ K (iz r x) Θ2) : We fr Γ Θ (tDGet td ty) K := fun σ F H ok env Q q =>
  w σ F H ok env _ fun p Θ1 k v F1 H1 s1 ok1 hp => k σ F1 H1 ok1 (env.mono s1) _ fun p2 Θ2 ⟨α, r, rows, n, x, hd, e, hx, kk⟩ v2 F2 H2 s2 ok2 hp2 => by
    subst e
    obtain ⟨⟨a, kvs, h1, h2, h3⟩, _⟩ := hd F2 H2 v ok2 (p.mono s2 hp)
    obtain ⟨b, e1, e2⟩ := key_at ok2.fh hp2
    obtain ⟨u, hu, hr⟩ := (h3.val n).2 x hx
    exact ⟨a, u, h1, .inr ⟨kvs, keyT n, b, h2, e1, e2, hu.symm⟩, q _ _ kk _ F2 H2 (s1.trans s2) ok2 hr⟩
theorem wt_dinT {td ty : TE} (w : We fr Γ Θ ty fun q Θ1 => We fr Γ Θ1 td fun p Θ2 => ∃ (α : Type) (r : Rep α) (rows : List (List Int × α)) (n : List Int), DicT fr Θ2 p r rows ∧ q = iz (yT zI) n ∧ K (iz zB (getT rows n).isSome) Θ2) : We fr Γ Θ (tDIn ty td) K := fun σ F H ok env Q q =>
  w σ F H ok env _ fun p Θ1 k v F1 H1 s1 ok1 hp => k σ F1 H1 ok1 (env.mono s1) _ fun p2 Θ2 ⟨α, r, rows, n, hd, e, kk⟩ v2 F2 H2 s2 ok2 hp2 => by
    subst e
    obtain ⟨⟨a, kvs, h1, h2, h3⟩, _⟩ := hd F2 H2 v2 ok2 hp2
    obtain ⟨b, e1, e2⟩ := key_at ok2.fh ((iz (yT zI) n).mono s2 hp)
    refine ⟨a, _, h1, .inr ⟨kvs, keyT n, b, h2, e1, e2, rfl⟩, q _ _ kk _ F2 H2 (s1.trans s2) ok2 ?_⟩
    show _ = V.bl _
    rw [h3.some]
theorem wt_dninT {td ty : TE} (w : We fr Γ Θ ty fun q Θ1 => We fr Γ Θ1 td fun p Θ2 => ∃ (α : Type) (r : Rep α) (rows : List (List Int × α)) (n : List Int), DicT fr Θ2 p r rows ∧ q = iz (yT zI) n ∧ K (iz zB (!(getT rows n).isSome)) Θ2) : We fr Γ Θ (tDNotIn ty td) K := fun σ F H ok env Q q =>
  w σ F H ok env _ fun p Θ1 k v F1 H1 s1 ok1 hp => k σ F1 H1 ok1 (env.mono s1) _ fun p2 Θ2 ⟨α, r, rows, n, hd, e, kk⟩ v2 F2 H2 s2 ok2 hp2 => by
    subst e
    obtain ⟨⟨a, kvs, h1, h2, h3⟩, _⟩ := hd F2 H2 v2 ok2 hp2
    obtain ⟨b, e1, e2⟩ := key_at ok2.fh ((iz (yT zI) n).mono s2 hp)
    refine ⟨a, _, h1, .inr ⟨kvs, keyT n, b, h2, e1, e2, rfl⟩, q _ _ kk _ F2 H2 (s1.trans s2) ok2 ?_⟩
    show _ = V.bl _
    rw [h3.some]
theorem we_newT {α : Type} (r : Rep α) (k : ∀ a, K (zAt a) (cYT a r [] :: Θ)) : We fr Γ Θ tDNewT K := fun σ F H ok env Q q a na => q _ _ (k a) _ F _ (Same.refl F) (ok.mkOwn (c := cYT a r []) na rfl ⟨⟨[], rfl, .nil⟩, Nat.zero_le _⟩) rfl
theorem kn_dputT {td ty tv : TE} {D : Ends} (w : We fr Γ Θ tv fun p Θ1 => We fr Γ Θ1 td fun pd Θ2 => We fr Γ Θ2 ty fun q Θ3 => ∃ (α : Type) (r : Rep α) (rows : List (List Int × α)) (n : List Int) (x : α) (a : Addr) (j : Nat), p = iz r x ∧ pd = zAt a ∧ q = iz (yT zI) n ∧ Θ3[j]? = some (cYT a r rows) ∧ rows.length < big ∧ Kn fr Γ (Θ3.set j (cYT a r (putT rows n x))) D.nx) : Kn fr Γ Θ (sDPut td ty tv D) := fun σ F H ok env =>
  w σ F H ok env _ fun p Θ1 k v F1 H1 s1 ok1 hp => k σ F1 H1 ok1 (env.mono s1) _ fun p2 Θ2 k2 v2 F2 H2 s2 ok2 hp2 => k2 σ F2 H2 ok2 ((env.mono s1).mono s2) _ fun p3 Θ3 ⟨α, r, rows, n, x, a, j, e1, e2, e3, hj, hl, kk⟩ v3 F3 H3 s3 ok3 hp3 => by
    subst e1 e2 e3
    obtain ⟨_, ⟨o, h2, ⟨⟨kvs, rfl, h4⟩, h5⟩⟩, _⟩ := ok3.ce _ (List.mem_of_getElem? hj)
    obtain ⟨b, g1, g2⟩ := key_at ok3.fh hp3
    refine ⟨a, _, hp2, .inr ⟨kvs, keyT n, b, h2, g1, g2, by rw [Paired.len h4]; exact big_lt h5, rfl⟩, ?_⟩
    exact kk σ F3 _ (ok3.mut hj rfl rfl ⟨⟨_, rfl, h4.put (r.mono (s2.trans s3) hp) hp3.2⟩, Nat.le_trans (putT_len rows n x) hl⟩) (((env.mono s1).mono s2).mono s3)
/-- one's own dict becomes a value: it is locked for ever -/
theorem eraseIdx_set {α : Type} (l : List α) (j : Nat) (x : α) : (l.set j x).eraseIdx j = l.eraseIdx j := by
  induction l generalizing j with
  | nil => rfl
  | cons y l ih =>
    cases j with
    | zero => rfl
    | succ j => exact congrArg (y :: ·) (ih j)
theorem set_sameO {α : Type} {l : List (Option α)} {i : Nat} {x : α} (h : l[i]? = some (some x)) : l.set i (some x) = l := by
  refine List.ext_getElem? fun n => ?_
  rw [List.getElem?_set]
  split
  · rename_i e
    subst e
    split
    · exact h.symm
    · rw [List.getElem?_eq_none (by omega)]
  · rfl
def cFz (a : Addr) (od : Obj) (o : HO) : Cel := ⟨a, true, fun _ u => u = .frz od o, fun _ h => h, fun h e => by rw [h] at e; cases e⟩
theorem OkF.lock {c : Cel} {j : Nat} {a : Addr} {o : HO} {od : Obj} (ok : OkF fr Θ F H) (hj : Θ[j]? = some c) (ha : c.a = a) (ho : c.own = true) (h : H a = some o) : F a = none ∧ Same F (upd F a (.frz od o)) ∧ OkF fr (Θ.eraseIdx j) (upd F a (.frz od o)) (upd H a (.frz od o)) := by
  subst ha
  have h0 := (ok.ce _ (List.mem_of_getElem? hj)).1
  refine ⟨h0, same_upd h0, ?_⟩
  have hlt : j < Θ.length := (List.getElem?_eq_some_iff.mp hj).1
  have ok1 := ok.mut (c' := cFz c.a od o) (o := .frz od o) hj rfl ho.symm rfl
  have ok2 := ok1.frz (i := j) (c := cFz c.a od o) (by rw [List.getElem?_set, if_pos rfl, if_pos hlt]) rfl (o := .frz od o) upd_same
  rw [eraseIdx_set] at ok2
  exact ok2
def tLk (t : TS) : TS := fun D σ H => ∃ d u, H d = some u ∧ Mut (some u) ∧ ∀ od, t D σ (upd H d (.frz od u))
theorem ps_lk {X : Cx} {st : Stmt} {t : TS} (h : PS X st t) : PS X st (tLk t) := by
  refine ⟨fun pins s σ H D I hw => ?_⟩
  obtain ⟨d, u, hd, mu, hw⟩ := hw
  obtain ⟨od, I1⟩ := I.lock hd mu
  exact h.run pins s σ _ _ I1 (hw od)
theorem kn_lkT {α : Type} {r : Rep α} {rows : List (List Int × α)} {a : Addr} {i j : Nat} {t : TS} {D : Ends} (hi : Γ[i]? = some (some (zAt a))) (hj : Θ[j]? = some (cYT a r rows)) (k : Kn fr (Γ.set i (some (iz (yDT r) rows))) (Θ.eraseIdx j) (t D)) : Kn fr Γ Θ (tLk t D) := fun σ F H ok env => by
  obtain ⟨_, ⟨o, h2, ⟨⟨kvs, rfl, h4⟩, h5⟩⟩, _⟩ := ok.ce _ (List.mem_of_getElem? hj)
  refine ⟨a, _, h2, True.intro, fun od => ?_⟩
  obtain ⟨h0, sF, ok2⟩ := ok.lock (od := od) hj rfl rfl h2
  obtain ⟨v, h1, h3⟩ := env.get hi
  have h3 : v = .ref a := h3
  subst h3
  have e2 := (env.mono sF).set (i := i) (v := .ref a) (p := iz (yDT r) rows) ⟨⟨a, od, kvs, rfl, upd_same, h4.mono sF⟩, h5⟩
  rw [set_sameO h1] at e2
  exact k σ _ _ ok2 e2
theorem kvt_key {α : Type} {r : Rep α} {kvs : List (List Key × V)} {rows : List (List Int × α)} (h : KVT r F kvs rows) {i : Nat} {n : List Int} (hi : (rows.map (·.1))[i]? = some n) : ∃ v, kvs[i]? = some (keyT n, v) ∧ n.length ≤ big := by
  rw [List.getElem?_map] at hi
  obtain ⟨x, hx, e⟩ := Option.map_eq_some_iff.mp hi
  subst e
  obtain ⟨kv, h1, h2, h3, h4⟩ := Paired.get' h hx
  exact ⟨kv.2, by rw [h1, ← h2], h4⟩
theorem pvs_ints (F : Hp) : ∀ (n : List Int), PVs zI F (n.map V.int) n
  | [] => .nil
  | _ :: n => .cons rfl (pvs_ints F n)
/-- the keys of a dict -/
theorem wi_keysT {td : TE} {K : List Vp → List Cel → Prop} (w : We fr Γ Θ td fun p Θ1 => ∃ (α : Type) (r : Rep α) (rows : List (List Int × α)), p = iz (yDT r) rows ∧ ((rows.map (·.1)).length ≤ big → K ((rows.map (·.1)).map (iz (yT zI))) Θ1)) : Wi fr Γ Θ (iKeys td) K := fun σ F H ok env R q =>
  w σ F H ok env _ fun p Θ1 ⟨α, r, rows, e, k⟩ v F1 H1 s1 ok1 hp => by
    subst e
    obtain ⟨⟨a, o, kvs, rfl, h2, h3⟩, h4⟩ := hp
    refine ⟨a, o, rfl, .inr ⟨kvs, ok1.fh _ _ h2, q _ Θ1 (k (by rw [List.length_map]; exact h4)) _ F1 H1 s1 ok1 fun F2 H2 s2 fh => ⟨fun i p hi => ?_, ?_⟩⟩⟩
    · obtain ⟨n, hn, rfl⟩ := get_izs hi
      obtain ⟨u, hu, hl⟩ := kvt_key h3 hn
      refine ⟨⟨fh _ _ (s2 _ _ h2), (List.getElem?_eq_some_iff.mp hu).1⟩, fun y H3 ⟨e, k', v', b, g1, g2, g3⟩ => ?_⟩
      subst e g2
      rw [hu] at g1
      cases g1
      rw [keyT_kV] at g3
      have hv : (iz (yT zI) n).p (upd F2 b (.tup (n.map V.int))) (.ref b) := ⟨⟨b, _, rfl, upd_same, pvs_ints _ n⟩, hl⟩
      cases hb : F2 b with
      | none =>
        refine ⟨_, same_upd hb, Same.refl _, fun c o h => ?_, fun c o h => ?_, hv⟩
        · by_cases q : c = b
          · subst q
            rw [upd_same] at h
            cases h
            exact g3
          · rw [upd_ne q] at h
            exact fh _ _ h
        · by_cases q : c = b
          · subst q
            rw [upd_same] at h
            cases h
            exact .inr (.inr ⟨_, rfl⟩)
          · rw [upd_ne q] at h
            exact .inl ⟨o, h⟩
      | some u2 =>
        have e3 := fh _ _ hb
        rw [g3] at e3
        cases e3
        exact ⟨F2, Same.refl _, Same.refl _, fh, Newer.refl _ _, ⟨b, _, rfl, hb, pvs_ints _ n⟩, hl⟩
    · rw [List.length_map, List.length_map, ← Paired.len h3]
      exact ⟨fh _ _ (s2 _ _ h2), Nat.le_refl _⟩
end
end L2

set_option Elab.async false
set_option linter.all false
set_option maxRecDepth 100000
set_option maxHeartbeats 4000000
/-! Dict comprehensions with words as keys; None or a thing, known to be a thing. -/
namespace L2
open PySem PySem.Spec PyProof.Rows PySem.HErr
def foldR {α β : Type} (kx : α → Str) (f : α → β) (xs : List α) : List (Str × β) := xs.foldl (fun rows x => putR rows (kx x) (f x)) []
theorem foldR_snoc {α β : Type} {kx : α → Str} {f : α → β} {xs : List α} {x : α} : foldR kx f (xs ++ [x]) = putR (foldR kx f xs) (kx x) (f x) := by
  unfold foldR
  rw [List.foldl_append]
  rfl
theorem foldR_len {α β : Type} {kx : α → Str} {f : α → β} (xs : List α) : (foldR kx f xs).length ≤ xs.length := by
  have : ∀ (xs : List α) (acc : List (Str × β)), (xs.foldl (fun rows x => putR rows (kx x) (f x)) acc).length ≤ acc.length + xs.length := by
    intro xs
    induction xs with
    | nil => intro acc; exact Nat.le_refl _
    | cons x xs ih =>
      intro acc
      have h1 := ih (putR acc (kx x) (f x))
      have h2 := putR_len acc (kx x) (f x)
      rw [List.foldl_cons, List.length_cons]
      omega
  have h := this xs []
  rw [List.length_nil, Nat.zero_add] at h
  exact h
/-- name = {..} on one line, the name a local -/
theorem ps_setDc {X : Cx} {i : Nat} {y : Str} {py : Pos} {kx vx tg iter : Expr} {ifs : List Expr} {scope : Scope} {own : List (Str × Nat)} {pos spos : Pos} {wi : TI} {g : TG} {tt : TT} {tk tv : TE} (hc : X.calm = true) (hN : X.N.Nodup) (hy : X.N[i]? = some y) (hyl : X.env.scope.names.lookup y = some .local)
    (hsw : swapsWith (.DictComp kx vx [⟨tg, iter, ifs, 0⟩] scope pos) (some (.Name y py)) spos.line X.env = pure true) (hi : PI X tg iter wi) (ok : BlkOk X.N X.env.scope scope own)
    (hg : ∀ (s : Shared) (H : Hp) (C : Addr) (cl : List (Str × Addr)) (fp : List Addr), PG (X.blk s H scope (compEnvC scope cl C X.env) fp) tg g) (ht : ∀ (s : Shared) (H : Hp) (C : Addr) (cl : List (Str × Addr)) (fp : List Addr), PTs (X.blk s H scope (compEnvC scope cl C X.env) fp) ifs tt)
    (hk : ∀ (s : Shared) (H : Hp) (C : Addr) (cl : List (Str × Addr)) (fp : List Addr), PE (X.blk s H scope (compEnvC scope cl C X.env) fp) kx tk)
    (he : ∀ (s : Shared) (H : Hp) (C : Addr) (cl : List (Str × Addr)) (fp : List Addr), PE (X.blk s H scope (compEnvC scope cl C X.env) fp) vx tv) (hs : ∀ x, foldedSetIterable iter X.env x = pure x := by intro _; rfl) :
    PS X (.Assign [.Name y py] (.DictComp kx vx [⟨tg, iter, ifs, 0⟩] scope pos) spos) (tAsg (tDc wi g tt tk tv (own.map (·.2))) (gName i)) := by
  refine ⟨fun pins s σ H D I h => ?_⟩
  rw [exec_Assign_Name_used _ _ _ _ hsw]
  refine wpAny_bind (wpAny_standAt (wpAny_bind ?_))
  have h : tDc wi g tt tk tv (own.map (·.2)) σ H (fun x H1 => gName i x σ H1 D.nx) := h
  refine wpAny_bind (thn (dc_core (Qf := fun _ s' => SP X pins D .next s') hc hN I hi ok hg ht hk he hs h fun L C s' m H' I' q hn f => ?_) fun _ s' hq => wpAny_pure (wpAny_pure hq))
  show wpAny _ _ (assign (.Name y py) X.env (.ref L)) _ _ _
  refine wpAny_assign_Name (store_ok2 (v := V.ref L) I' hN hy (.inl hyl) rfl (fun s2 I2 ⟨a, sb, ha⟩ => ?_) (.inr hyl))
  obtain ⟨f0, f1, f2, f3, f4, f5⟩ := f
  have haC : C ≠ a := by
    rcases ha with z | z
    · rw [z]; exact f1
    · exact fun e => f4 y a z e.symm
  refine ⟨m, hn.sameBut sb haC, fun h3 sb3 => ?_⟩
  exact ⟨_, H', I2.turned (t' := s2.toks) (fun b o hb e => (sb3.2 b hb).trans e) f0 f1 f3 f4 f5, q⟩
theorem sw_trueD {kx vx : Expr} {gs : List Comprehension} {scope : Scope} {pos py : Pos} {y : Str} {l : Nat} {env : Env} (hk : env.scope.kind = .function) (hy : env.scope.names.lookup y = some .local) (hl : (py.line == pos.line) = true)
    (ha : (scope.names.any fun (n, k) => n == y && (k == .local || k == .cell)) = false) : swapsWith (.DictComp kx vx gs scope pos) (some (.Name y py)) l env = pure true := by
  have ky : env.kindOf y = some .local := hy
  have hb : env.blockKind = .function := by unfold Env.blockKind; rw [hk]; rfl
  unfold swapsWith
  simp only [hb, ky, ha, Expr.pos, hl]
  rfl
theorem pget_list {X : Cx} {K : PySem.W.Frag} (hK : X.K = K := by rfl) : PGet X (rIxL K) := by
  subst hK
  intro pins s σ H x y v u Q I rx ry h
  obtain ⟨p, xs, i, z, rfl, rfl, hq, he, q⟩ := h
  cases rx
  obtain ⟨t, rfl⟩ := ry
  obtain ⟨its, r, pl, hz⟩ := I.list hq
  obtain ⟨j, h1, h2, h3, h4, h5⟩ := atI_get he
  obtain ⟨w, ew, rw'⟩ := r.get h2
  have hl := r.length
  have hn := line63
  have fin : EP X pins σ Q w s := ⟨z, H, I, rw', q⟩
  by_cases h0 : 0 ≤ i
  · have hj : i.toNat = j := by
      rw [seqIndex_of h0 h5] at h1
      exact Option.some.inj h1
    exact PySem.wpAny_getItem_list pl.isList h0 (by omega) (by rw [hj]; simpa using ew) fin
  · have hj : (i + (its.toArray.size : Int)).toNat = j := by
      rw [PySem.MeetsSeq.seqIndex_neg (by omega) (by omega)] at h1
      rw [List.size_toArray, ← hl]
      exact Option.some.inj h1
    exact wpAny_getItem_list_neg pl.isList (by omega) (by rw [List.size_toArray] <;> omega) (by omega) (by rw [hj]; simpa using ew) fin
section
variable {fr fr' : Fr} {Γ Γ' : Gam} {Θ Θ' : List Cel} {F F' H H' : Hp} {K : Vp → List Cel → Prop} {Qv : VK}
theorem we_dc0 {α β : Type} {r : Rep α} {s : Rep β} {wi : TI} {g : TG} {tk tv : TE} {vs : List Nat}
    (w : Wi fr Γ Θ wi fun its Θ1 => ∃ (xs : List α) (kx : α → Str) (f : α → β) (Γ2 : α → Gam), its = xs.map (iz r) ∧ Θ1 = Θ ∧ xs.length ≤ big ∧ (∀ x, TgR g vs (iz r x) (wipeG Γ vs) (Γ2 x)) ∧
      (∀ x c, Ev fr (Γ2 x) (c :: Θ) tk (iz yS (kx x))) ∧ (∀ x c, Ev fr (Γ2 x) (c :: Θ) tv (iz s (f x))) ∧ K (iz (yD s) (foldR kx f xs)) Θ) : We fr Γ Θ (tDc wi g tYes tk tv vs) K := fun σ F H ok env Q q => by
  refine w σ F H ok env _ fun its Θ1 ⟨xs, kx, f, Γ2, e1, e2, hl, tg, hk, hv, hq⟩ J F1 H1 s1 ok1 jok => ?_
  subst e1 e2
  intro D nD
  refine ⟨fun i m H' => m = xs.length - i ∧ i ≤ xs.length ∧ ∃ F2, Same F1 F2 ∧ OkF fr (cYD D s (foldR kx f (xs.take i)) :: Θ1) F2 H', ⟨xs.length, by simp, Nat.zero_le _, F1, Same.refl _, ok1.mkOwn (c := cYD D s []) nD rfl ⟨⟨[], rfl, .nil⟩, Nat.zero_le _⟩⟩, ?_⟩
  rintro i m H' ⟨rfl, hi, F2, s2, ok2⟩
  obtain ⟨j1, j2⟩ := jok F2 H' s2 ok2.fh
  by_cases hlt : i < xs.length
  · have hx : xs[i]? = some xs[i] := List.getElem?_eq_getElem hlt
    generalize xs[i] = x at hx
    obtain ⟨jg, jy⟩ := j1 i (iz r x) (by rw [List.getElem?_map, hx]; rfl)
    refine .inr ⟨jg, fun H3 => ∃ F3, Same F1 F3 ∧ OkF fr (cYD D s (foldR kx f (xs.take (i + 1))) :: Θ1) F3 H3, fun H3 p => ⟨xs.length - (i + 1), by omega, rfl, hlt, p⟩, fun v H3 y => ?_⟩
    obtain ⟨F3, e1, e2, e3, e4, e5⟩ := jy v H3 y
    have ok3 := ok2.grow e2 e1 e3 e4
    have s3 := s2.trans e1
    refine tg x (L2.wipe σ vs) F3 H3 v ok3.fh ((env.mono (s1.trans s3)).wipe vs) e5 _ fun σ2 env2 hw => ⟨?_, ?_⟩
    · rw [hw, wipe_idem]
    · unfold tYes
      dsimp only
      rw [if_pos rfl]
      refine hk x _ σ2 F3 H3 ok3 env2 _ fun p Θ2 ⟨e6, e7⟩ u F4 H4 s4 ok4 hp => ?_
      subst e6 e7
      refine hv x _ σ2 F4 H4 ok4 (env2.mono s4) _ fun p Θ3 ⟨e8, e9⟩ z F5 H5 s5 ok5 hp2 => ?_
      subst e8 e9
      obtain ⟨_, ⟨o, h2, ⟨⟨kvs, rfl, h4⟩, h5⟩⟩, _⟩ := ok5.ce _ (List.mem_cons_self ..)
      have hlen : (foldR kx f (xs.take i)).length ≤ i := Nat.le_trans (foldR_len _) (by rw [List.length_take]; omega)
      have ok6 := ok5.mut (i := 0) (c := cYD D s (foldR kx f (xs.take i))) (c' := cYD D s (putR (foldR kx f (xs.take i)) (kx x) (f x))) (o := .dK (putK kvs (Sum.inr (kx x)) z)) rfl rfl rfl ⟨⟨_, rfl, h4.put hp2⟩, Nat.le_trans (putR_len _ _ _) (by omega)⟩
      refine ⟨kvs, Sum.inr (kx x), hp.1.1, h2, ?_, F5, (s3.trans s4).trans s5, ?_⟩
      · rw [Paired.len h4]
        exact big_lt (by omega)
      · rw [take_more hx, foldR_snoc]
        exact ok6
  · have e : i = xs.length := by omega
    subst e
    rw [List.take_length] at ok2
    obtain ⟨_, ⟨o, h2, ⟨⟨kvs, rfl, h4⟩, h5⟩⟩, _⟩ := ok2.ce _ (List.mem_cons_self ..)
    have ok3 := ok2.frz (i := 0) (c := cYD D s (foldR kx f xs)) rfl rfl h2
    have sD : Same F2 (upd F2 D (.dK kvs)) := same_upd (ok2.ce _ (List.mem_cons_self ..)).1
    exact .inl ⟨by rw [List.length_map] at j2; exact j2, q _ _ hq _ _ H' ((s1.trans s2).trans sD) ok3 ⟨⟨D, kvs, rfl, upd_same, h4.mono sD⟩, h5⟩⟩
/-- xs[n] op= y, of one's own ints -/
theorem kn_augSY {Kf : PySem.W.Frag} {f : Int → Int → Int} {a : Addr} {i j : Nat} {xs : List Int} {ti te : TE} {D : Ends} (hi : Γ[i]? = some (some (zAt a)))
    (w : We fr Γ Θ ti fun q Θ1 => ∃ n m x, q = iz zI n ∧ Θ1[j]? = some (cY a zI xs) ∧ ixN xs.length n = some m ∧ xs[m]? = some x ∧ We fr Γ Θ1 te fun p Θ2 => ∃ y, p = iz zI y ∧ Θ2[j]? = some (cY a zI xs) ∧ Kn fr Γ (Θ2.set j (cY a zI (xs.set m (f x y)))) D.nx) : Kn fr Γ Θ (tAugS (tVar i) ti te (rIxL Kf) (ipI f) rSetL D) := fun σ F H ok env => by
  obtain ⟨v0, h1, h2⟩ := env.get hi
  have h2 : v0 = .ref a := h2
  subst h2
  refine ⟨_, h1, w σ F H ok env _ fun q Θ1 ⟨n, m, x, e1, hj, hm, hx, w2⟩ u F1 H1 s1 ok1 hp => ?_⟩
  subst e1
  have hp : u = .int n := hp
  subst hp
  obtain ⟨_, ⟨o, g2, ⟨⟨vs, rfl, g4⟩, g5⟩⟩, _⟩ := ok1.ce _ (List.mem_of_getElem? hj)
  have ev := pvs_I g4
  subst ev
  refine ⟨a, _, n, .int x, rfl, rfl, SqL.of g2, ?_, w2 σ F1 H1 ok1 (env.mono s1) _ fun p Θ2 ⟨y, e2, hj2, k⟩ z F2 H2 s2 ok2 hp2 => ?_⟩
  · unfold atI
    rw [List.length_map, hm]
    show (xs.map V.int)[m]? = _
    rw [List.getElem?_map, hx]
    rfl
  · subst e2
    have hp2 : z = .int y := hp2
    subst hp2
    obtain ⟨_, ⟨o, c2, ⟨⟨us, rfl, c4⟩, c5⟩⟩, _⟩ := ok2.ce _ (List.mem_of_getElem? hj2)
    have eu := pvs_I c4
    subst eu
    refine ⟨x, y, rfl, rfl, a, _, n, m, rfl, rfl, c2, by rw [List.length_map]; exact hm, ?_⟩
    rw [← List.map_set]
    exact k σ F2 _ (ok2.mut hj2 rfl rfl ⟨⟨_, rfl, ints_pvs⟩, by rw [List.length_set]; exact c5⟩) ((env.mono s1).mono s2)
theorem le_Oz {α : Type} {r : Rep α} {x : Option α} {z : α} (e : x = some z) : (iz (yO r) x).Le (iz r z) := fun F v h => by
  subst e
  exact h
end
end L2

set_option Elab.async false
set_option linter.all false
set_option maxRecDepth 100000
set_option maxHeartbeats 4000000
/-! Further rules: index, repetition of texts, max, min, dict displays. -/
namespace L2
open PySem PySem.Spec PyProof.Rows PySem.HErr
section
variable {X : Cx} {K : PySem.W.Frag}
def rIndexT (K : PySem.W.Frag) : V → List V → Hp → VK → Prop := fun x xs H Q => ∃ p, ∃ ys : List Str, ∃ z j, x = .ref p ∧ xs = [.str z] ∧ SqT K H p (ys.map V.str) ∧ ys[j]? = some z ∧ (∀ m, m < j → ys[m]? ≠ some z) ∧ Q (.int (j : Nat)) H
theorem kmt_indexT (h : X.K = K := by rfl) : MtR X "tuple.index" (rIndexT K) := h ▸ mt_tup_index
theorem kcr_max (hc : X.calm = true) (h : X.K = K := by rfl) : CallR X (.builtin "max") (rMax K) := h ▸ cr_max hc
theorem kcr_min (hc : X.calm = true) (h : X.K = K := by rfl) : CallR X (.builtin "min") (rMin K) := h ▸ cr_min hc
/-- text * int -/
def rMulS : R2 := fun x y H Q => ∃ (z : Str) (n : Int), x = .str z ∧ y = .int n ∧ -1000 ≤ n ∧ n ≤ 1000 ∧ z.length ≤ 100 ∧ Q (.str (Txt.mul z n)) H
theorem op_mulS : OpR X (binaryOp .Mult) rMulS := by
  intro pins s σ H x y v u Q I rx ry h
  obtain ⟨z, n, rfl, rfl, h1, h2, h3, q⟩ := h
  obtain ⟨t, rfl⟩ := rx
  obtain ⟨t', rfl⟩ := ry
  exact SB.mul (mulOk_of 100 1000 h3 h2 (by omega) (by decide) (by decide)) fun t' k => ⟨.str (Txt.mul z n), H, I.tok _, ⟨_, rfl⟩, q⟩
/-- {k: v}, k a tuple -/
def tDisT (tk tv : TE) : TE := fun σ H Q => ∀ p, H p = none → tk σ (upd H p (.dT [])) fun x H1 => tv σ H1 fun y H2 => ∃ (b : Addr) (ks : List Key), x = .ref b ∧ H2 b = some (.tup (ks.map kV)) ∧ H2 p = some (.dT []) ∧ Q (.ref p) (upd H2 p (.dT [(ks, y)]))
theorem pe_disT {pos : Pos} {k v : Expr} {tk tv : TE} (hu : X.A.units + 1 < cLine) (hk : PE X k tk) (hv : PE X v tv) : PE X (.Dict [some k] [v] pos) (tDisT tk tv) := by
  refine ⟨fun pins s σ H Q I q => ?_⟩
  have hn := I.hok.fresh (Nat.le_refl s.heap.objs.size)
  have I1 := I.laid (a := s.heap.objs.size) (o := .dT []) (h' := s.heap.push { cls := .type "dict", data := .dict #[] }) (t' := s.toks) (fun _ _ q => Heap.get?_push_of_some _ q) (Nat.le_refl _) (dt_empty s.heap I.big)
  rw [arm_eval_Dict, show (evalEachOpt [some k] X.env).zip ((evalEach [v] X.env).map fun v => do let x ← v; standAt pos; pure x) = (pairTrees [some k] [v] X.env pos).map (fun p => (some p.1, p.2)) from zip_pairTrees [some k] [v] X.env pos rfl rfl, dictDisplay_pairs _ (by intro e; have := congrArg List.length e; rw [pairTrees_length _ _ _ _ rfl rfl] at this; cases this) (by rw [pairTrees_length _ _ _ _ rfl rfl]; exact Nat.lt_of_sub_pos (by exact Nat.succ_pos _))]
  refine wpAny_bind (wpAny_standAt (wpAny_bind ?_))
  unfold subDict
  refine wpAny_bind (wpAny_alloc ?_)
  refine wpAny_bind (wpAny_holding ?_)
  rw [if_pos (by rw [pairTrees_length _ _ _ _ rfl rfl]; exact Nat.le_add_left 1 14)]
  have run : wpAny (model X.prog X.w) X.A (evalPairs (pairTrees [some k] [v] X.env pos)) (fun vs s' => ∃ (kv vv : Value) (x y : V) (H2 : Hp), vs = [(kv, vv)] ∧ Inv X pins σ H2 s' ∧ RelV x kv ∧ RelV y vv ∧ ∃ (b : Addr) (ks : List Key), x = .ref b ∧ H2 b = some (.tup (ks.map kV)) ∧ H2 s.heap.objs.size = some (.dT []) ∧ Q (.ref s.heap.objs.size) (upd H2 s.heap.objs.size (.dT [(ks, y)]))) X.xe { s with heap := s.heap.push { cls := .type "dict", data := .dict #[] } } :=
    pairTrees_cons_walk (thn (hk.run pins _ σ _ _ I1 (q _ hn)) fun u s1 ⟨x, H1, I2, rx, q1⟩ => thn (hv.run pins s1 σ H1 _ I2 q1) fun w2 s2 ⟨y, H2, I3, ry, q2⟩ => pairTrees_nil_walk ⟨u, w2, x, y, H2, rfl, I3, rx, ry, q2⟩)
  refine wpAny_bind (wpAny_mono run (fun vs s1 h1 => ?_) fun _ _ e => e)
  obtain ⟨kv, vv, x, y, H2, rfl, I3, rx, ry, b, ks, rfl, eb, ep, q3⟩ := h1
  cases (show kv = Value.ref b from rx)
  refine wpAny_holding ?_
  obtain ⟨z, hd, xs, rel, dd⟩ := dt_of I3.hok ep
  cases rel
  show wpAny _ _ (forIn [(Value.ref b, vv)] _ _ >>= _) _ _ _
  rw [List.forIn_cons]
  refine wpAny_bind (wpAny_bind (wpAny_bind (wpAny_dictSet_heap (hsz := Nat.zero_le _) (Nat.lt_of_succ_lt hu) (key_of I3.hok eb) dd fun h' dd' hs => ?_)))
  refine wpAny_pure ?_
  refine wpAny_pure ?_
  refine wpAny_pure (wpAny_pure (wpAny_pure ⟨.ref s.heap.objs.size, _, ?_, rfl, q3⟩))
  obtain ⟨q', es, ep', hq, h2, h3, h4, _, h5⟩ := dd'
  refine d_write I3 (by rw [ep]; exact True.intro) hs ⟨q', hq⟩ ⟨by rw [sizeLine_eq]; exact Nat.le_add_left 1 _, hd, _, (Paired.cons ⟨rfl, by rw [upd_ne (ne_of eb ep (fun z => nomatch z))]; exact eb, ry⟩ .nil), q', es, ep', hq, h2, h3, h4, h5⟩
end
section
variable {fr fr' : Fr} {Γ Γ' : Gam} {Θ Θ' : List Cel} {F F' H H' : Hp} {K : Vp → List Cel → Prop} {Qv : VK}
theorem Mts.le {r : V → List V → Hp → VK → Prop} {p p' : Vp} {ps : List Vp} (w : Mts fr Θ r p' ps K) (h : p.Le p') : Mts fr Θ r p ps K := fun F H v vs ok a b Q k => w F H v vs ok (h _ _ a) b Q k
theorem Mts.le1 {r : V → List V → Hp → VK → Prop} {p q q' : Vp} (w : Mts fr Θ r p [q'] K) (h : q.Le q') : Mts fr Θ r p [q] K := fun F H v vs ok a b Q k => w F H v vs ok a (by
  cases b with
  | cons b1 b2 => exact .cons (h _ _ b1) b2) Q k
theorem le_LS {xs : List Str} : (iz (yL yS) xs).Le (iz (zL zS) xs) := le_LLr fun _ _ _ _ h => h.1
theorem my_index {Kf : PySem.W.Frag} {xs : List Str} {x : Str} (hx : x ∈ xs) (k : K (iz zI (xs.idxOf x : Nat)) Θ) : Mts fr Θ (rIndex Kf) (iz (yL yS) xs) [iz yS x] K := ((mts_index hx k).le1 le_zS).le le_LS
theorem tyl_yL {α : Type} {r : Rep α} {xs : List α} {Kf : PySem.W.Frag} : ∀ F H v, OkF fr Θ F H → (iz (yL r) xs).p F v → tyV Kf "list" v H := fun F H v ok h => tyl_L F H v ok h.1
theorem my_indexT {Kf : PySem.W.Frag} {xs : List Str} {x : Str} (hx : x ∈ xs) (k : K (iz zI (xs.idxOf x : Nat)) Θ) : Mts fr Θ (rIndexT Kf) (iz (yT yS) xs) [iz yS x] K := fun F H v vs ok hv hps Q q => by
  obtain ⟨⟨a, us, rfl, h2, h3⟩, _⟩ := hv
  have h3 : PVs zS F us xs := Paired.imp2 (fun _ _ h => h.1) h3
  obtain ⟨rfl, _⟩ := pvs_S h3
  cases hps with
  | cons h1 hp => cases hp with
    | nil =>
      obtain ⟨⟨rfl, ha⟩, _⟩ := h1
      have hl : xs.idxOf x < xs.length := List.idxOf_lt_length_iff.mpr hx
      refine ⟨a, xs, x, xs.idxOf x, rfl, rfl, SqT.of (ok.fh _ _ h2), by rw [List.getElem?_eq_getElem hl, List.getElem_idxOf], fun m hm e => ?_, q.go k ok rfl⟩
      have := List.not_of_lt_findIdx hm
      rw [List.getElem?_eq_getElem (by omega)] at e
      have e := Option.some.inj e
      rw [e] at this
      simp at this
theorem asc_mul {z : Str} {n : Int} (h : Asc z) : Asc (Txt.mul z n) := by
  have key : ∀ (m : Nat) (acc : Array Nat), (∀ c ∈ acc.toList, c < 128) → ∀ c ∈ ((List.replicate m z.cps).foldl (· ++ ·) acc).toList, c < 128 := by
    intro m
    induction m with
    | zero => intro acc ha; exact ha
    | succ m ih =>
      intro acc ha
      rw [List.replicate_succ, List.foldl_cons]
      refine ih _ fun c hc => ?_
      rw [Array.toList_append, List.mem_append] at hc
      exact hc.elim (ha c) (h c)
  unfold Txt.mul
  split
  · exact fun c hc => (by simpa [Str.empty] using hc : False).elim
  · split
    · exact h
    · exact key _ #[] (fun c hc => nomatch hc)
theorem oy_mulS {z : Str} {n : Int} (h1 : -1000 ≤ n) (h2 : n ≤ 1000) (h3 : z.length ≤ 100) (k : K (iz yS (Txt.mul z n)) Θ) : Ops fr Θ rMulS (iz yS z) (iz zI n) K := fun F H v w ok hv hw Q q => by
  obtain ⟨⟨rfl, ha⟩, _⟩ := hv
  have hw : w = .int n := hw
  subst hw
  have hl : (Txt.mul z n).length ≤ big := by
    have e := len_mul z n
    have : (z.length : Int) * (if decide (n < 0) = true then 0 else n) ≤ 100 * 1000 := by
      refine Int.mul_le_mul (by omega) ?_ ?_ (by decide)
      · split <;> omega
      · split
        · exact Int.le_refl _
        · rename_i h; simp at h; omega
    have hb : big = 100000 := rfl
    omega
  exact ⟨z, n, rfl, rfl, h1, h2, h3, q.go k ok ⟨⟨rfl, asc_mul ha⟩, hl⟩⟩
theorem cy_max {Kf : PySem.W.Frag} {xs : List Int} (h : xs ≠ []) (k : ∀ m, m ∈ xs → (∀ y ∈ xs, y ≤ m) → K (iz zI m) Θ) : Cbs fr Θ (rMax Kf) [iz (yL zI) xs] K := fun F H vs ok hps Q q => by
  cases hps with
  | cons h1 hp => cases hp with
    | nil =>
      obtain ⟨⟨a, us, rfl, h2, h3⟩, _⟩ := h1
      have := pvs_I h3
      subst this
      exact ⟨a, xs, rfl, SqL.of (ok.fh _ _ h2), List.length_pos_iff.mpr h, fun m hm hy => q.go (k m hm hy) ok rfl⟩
theorem cy_min {Kf : PySem.W.Frag} {xs : List Int} (h : xs ≠ []) (k : ∀ m, m ∈ xs → (∀ y ∈ xs, m ≤ y) → K (iz zI m) Θ) : Cbs fr Θ (rMin Kf) [iz (yL zI) xs] K := fun F H vs ok hps Q q => by
  cases hps with
  | cons h1 hp => cases hp with
    | nil =>
      obtain ⟨⟨a, us, rfl, h2, h3⟩, _⟩ := h1
      have := pvs_I h3
      subst this
      exact ⟨a, xs, rfl, SqL.of (ok.fh _ _ h2), List.length_pos_iff.mpr h, fun m hm hy => q.go (k m hm hy) ok rfl⟩
/-- {k: v} that is one's own -/
theorem we_disT {α : Type} (r : Rep α) {tk tv : TE} (w : ∀ a, We fr Γ (cYT a r [] :: Θ) tk fun p Θ1 => We fr Γ Θ1 tv fun q Θ2 => ∃ (n : List Int) (x : α) (Θ3 : List Cel), p = iz (yT zI) n ∧ q = iz r x ∧ Θ2 = cYT a r [] :: Θ3 ∧ K (zAt a) (cYT a r [(n, x)] :: Θ3)) : We fr Γ Θ (tDisT tk tv) K := fun σ F H ok env Q q a na =>
  w a σ F _ (ok.mkOwn (c := cYT a r []) na rfl ⟨⟨[], rfl, .nil⟩, Nat.zero_le _⟩) env _ fun p Θ1 k v F1 H1 s1 ok1 hp => k σ F1 H1 ok1 (env.mono s1) _ fun p2 Θ2 ⟨n, x, Θ3, e1, e2, e3, kk⟩ v2 F2 H2 s2 ok2 hp2 => by
    subst e1 e2 e3
    have hp' := (iz (yT zI) n).mono s2 hp
    obtain ⟨b, g1, g2⟩ := key_at ok2.fh hp'
    obtain ⟨_, ⟨o, h2, ⟨⟨kvs, rfl, h4⟩, h5⟩⟩, _⟩ := ok2.ce _ (List.mem_cons_self ..)
    cases h4
    refine ⟨b, keyT n, g1, g2, h2, q _ _ kk _ F2 _ (s1.trans s2) (ok2.mut (i := 0) (c' := cYT a r [(n, x)]) rfl rfl rfl ⟨⟨_, rfl, .cons ⟨rfl, hp2, hp'.2⟩ .nil⟩, Nat.le_add_left 1 99999⟩) rfl⟩
end
end L2

set_option Elab.async false
set_option linter.all false
set_option maxRecDepth 100000
set_option maxHeartbeats 4000000
/-! Sequences that may be lists or tuples; data read back into things; parameters with defaults. -/
namespace L2
open PySem PySem.Spec PyProof.Rows PySem.HErr
/-! ### data read back -/
class XBack {α : Type} (r : Rep α) [d : XDat r] : Prop where
  bk : ∀ {F : Hp} {v : V} {x : α}, xp F (d.enc x) v → (d.enc x).depth ≤ 60 → r.p F v x
instance : XBack yX := ⟨fun h hd => ⟨h, hd⟩⟩
instance : XBack zI := ⟨fun h _ => by simp only [XDat.enc, xp] at h; exact h⟩
instance : XBack yS := ⟨fun h _ => by simp only [XDat.enc, xp] at h; exact ⟨⟨h.1, h.2.1⟩, h.2.2⟩⟩
theorem xpAll_back {α : Type} {r : Rep α} [d : XDat r] [b : XBack r] {F : Hp} : ∀ {xs : List α} {vs : List V}, xpAll F (xs.map d.enc) vs → (∀ x ∈ xs, (d.enc x).depth ≤ 60) → PVs r F vs xs
  | [], vs, h, _ => by
    simp only [List.map_nil, xpAll] at h
    subst h
    exact .nil
  | x :: xs, vs, h, hd => by
    simp only [List.map_cons, xpAll] at h
    obtain ⟨v, r', rfl, h1, h2⟩ := h
    exact .cons (b.bk h1 (hd x (List.mem_cons_self ..))) (xpAll_back h2 fun y hy => hd y (List.mem_cons_of_mem _ hy))
instance {α : Type} {r : Rep α} [d : XDat r] [b : XBack r] : XBack (yL r) := ⟨fun {F v xs} h hd => by
  have hx : (iz yX (.list (xs.map d.enc))).p F v := ⟨h, hd⟩
  simp only [XDat.enc, xp] at h
  obtain ⟨a, vs, h1, h2, h3, h4⟩ := h
  refine ⟨⟨a, vs, h1, h2, xpAll_back h4 fun x hx => ?_⟩, by rw [List.length_map] at h3; exact h3⟩
  simp only [XDat.enc, PyData.depth] at hd
  exact depth_mem (n := 60) (by omega) (List.mem_map.mpr ⟨x, hx, rfl⟩)⟩
instance {α : Type} {r : Rep α} [d : XDat r] [b : XBack r] : XBack (yT r) := ⟨fun {F v xs} h hd => by
  simp only [XDat.enc, xp] at h
  obtain ⟨a, vs, h1, h2, h3, h4⟩ := h
  refine ⟨⟨a, vs, h1, h2, xpAll_back h4 fun x hx => ?_⟩, by rw [List.length_map] at h3; exact h3⟩
  simp only [XDat.enc, PyData.depth] at hd
  exact depth_mem (n := 60) (by omega) (List.mem_map.mpr ⟨x, hx, rfl⟩)⟩
theorem le_XB {α : Type} {r : Rep α} [d : XDat r] [b : XBack r] {v : PyData} {x : α} (e : v = d.enc x) : (iz yX v).Le (iz r x) := fun F u h => by
  subst e
  exact b.bk h.1 h.2
/-! ### sequences -/
def SqF (F : Hp) (a : Addr) (vs : List V) : Prop := F a = some (.lst vs) ∨ F a = some (.tup vs) ∨ ∃ o, F a = some (.frz o (.tup vs))
theorem SqF.mono {F F' : Hp} {a : Addr} {vs : List V} (e : Same F F') (h : SqF F a vs) : SqF F' a vs := h.elim (fun h => .inl (e _ _ h)) fun h => .inr (h.elim (fun h => .inl (e _ _ h)) fun ⟨o, h⟩ => .inr ⟨o, e _ _ h⟩)
theorem SqF.rd {F : Hp} {a : Addr} {vs : List V} (h : SqF F a vs) : Rd F a (.lst vs) ∨ Rd F a (.tup vs) := h.elim (fun h => .inl (.inl h)) fun h => .inr (h.elim .inl .inr)
def ySq {α : Type} (r : Rep α) : Rep (List α) := ⟨fun F v xs => (∃ a vs, v = .ref a ∧ SqF F a vs ∧ PVs r F vs xs) ∧ xs.length ≤ big, fun e ⟨⟨a, vs, h1, h2, h3⟩, h4⟩ => ⟨⟨a, vs, h1, h2.mono e, Paired.imp2 (fun _ _ h => r.mono e h) h3⟩, h4⟩⟩
theorem le_LQ {α : Type} {r : Rep α} {xs : List α} : (iz (yL r) xs).Le (iz (ySq r) xs) := fun _ _ ⟨⟨a, vs, h1, h2, h3⟩, h4⟩ => ⟨⟨a, vs, h1, .inl h2, h3⟩, h4⟩
theorem le_TQ {α : Type} {r : Rep α} {xs : List α} : (iz (yT r) xs).Le (iz (ySq r) xs) := fun _ _ ⟨⟨a, vs, h1, h2, h3⟩, h4⟩ => ⟨⟨a, vs, h1, .inr (.inl h2), h3⟩, h4⟩
theorem le_XQ {α : Type} {r : Rep α} [d : XDat r] [b : XBack r] {v : PyData} {xs : List α} (e : v = .list (xs.map d.enc) ∨ v = .tuple (xs.map d.enc)) : (iz yX v).Le (iz (ySq r) xs) := fun F u h => by
  rcases e with e | e
  · exact le_LQ F u (le_XB (r := yL r) e F u h)
  · exact le_TQ F u (le_XB (r := yT r) e F u h)
section
variable {X : Cx} {K : PySem.W.Frag} {tg : Expr}
def iAny (K : PySem.W.Frag) (tl : TE) : TI := fun σ H R => tl σ H fun x H1 => ∃ a, x = .ref a ∧ (((∃ xs, SqL K H1 a xs) ∧ R (Itl K a) H1) ∨ (∃ xs, SqT K H1 a xs) ∧ R (Itt K a) H1)
theorem pi_any {l : Expr} {tl : TE} (hl : PE X l tl) : PI X tg l (iAny X.K tl) := by
  refine ⟨fun pins s σ H R I h => ?_⟩
  refine thn (hl.run pins s σ H _ I h) fun v s1 ⟨x, H1, I1, r1, q1⟩ => ?_
  obtain ⟨a, e, q⟩ := q1
  subst e
  cases r1
  rcases q with ⟨⟨xs, hq⟩, q⟩ | ⟨⟨xs, hq⟩, q⟩
  · obtain ⟨its, rv, p, hz⟩ := I1.list hq
    refine wpAny_pyIter_list p.isList ?_
    refine ⟨s1.heap.objs.size, [s1.heap.objs.size], _, _, H1, rfl, I1.kept (t' := s1.toks) fun b o e => Heap.get?_push_of_some _ e, turn_list a _, ⟨_, Heap.get?_push_size _ rfl, rfl, rfl⟩, fun b hb => ?_, q⟩
    have e : b = s1.heap.objs.size := by simpa using hb
    subst e
    exact I1.fpOk (Nat.le_refl _) (I1.hok.fresh (Nat.le_refl _))
  · obtain ⟨its, rv, p, hz⟩ := I1.tuple hq
    refine wpAny_pyIter_tuple (show s1.heap.IsTuple a its.toArray from p) ?_
    refine ⟨s1.heap.objs.size, [s1.heap.objs.size], _, _, H1, rfl, I1.kept (t' := s1.toks) fun b o e => Heap.get?_push_of_some _ e, turn_tuple a _, ⟨_, Heap.get?_push_size _ rfl, rfl, rfl⟩, fun b hb => ?_, q⟩
    have e : b = s1.heap.objs.size := by simpa using hb
    subst e
    exact I1.fpOk (Nat.le_refl _) (I1.hok.fresh (Nat.le_refl _))
theorem kpi_any {l : Expr} {tl : TE} (hl : PE X l tl) (h : X.K = K := by rfl) : PI X tg l (iAny K tl) := h ▸ pi_any hl
end
section
variable {fr fr' : Fr} {Γ Γ' : Gam} {Θ Θ' : List Cel} {F F' H H' : Hp} {K : Vp → List Cel → Prop} {Qv : VK}
theorem SqF.up {a : Addr} {vs : List V} (fh : Same F H) (h : SqF F a vs) : Rd H a (.lst vs) ∨ Rd H a (.tup vs) := (h.mono fh).rd
theorem sy_Q {α : Type} {r : Rep α} {xs : List α} : SeqY fr Θ (iz (ySq r) xs) r xs := ⟨fun F H v ok ⟨⟨a, vs, h1, h2, h3⟩, _⟩ => ⟨a, vs, h1, h2.up ok.fh, h3⟩, fun _ _ _ _ h => h.2⟩
theorem wi_yQ {Kf : PySem.W.Frag} {tl : TE} {K : List Vp → List Cel → Prop} (w : We fr Γ Θ tl fun p Θ1 => ∃ (α : Type) (r : Rep α) (xs : List α), p = iz (ySq r) xs ∧ (xs.length ≤ big → K (xs.map (iz r)) Θ1)) : Wi fr Γ Θ (iAny Kf tl) K := fun σ F H ok env R q =>
  w σ F H ok env _ fun p Θ1 ⟨α, r, xs, e, k⟩ v F1 H1 s1 ok1 hp => by
    subst e
    obtain ⟨⟨a, vs, rfl, h2, h3⟩, h4⟩ := hp
    have k := k h4
    refine ⟨a, rfl, ?_⟩
    rcases h2 with h2 | h2
    · refine .inl ⟨⟨_, SqL.of (ok1.fh _ _ h2)⟩, q _ Θ1 k _ F1 H1 s1 ok1 fun F2 H2 s2 fh => ⟨fun i p hi => ?_, ?_⟩⟩
      · obtain ⟨x, hx, rfl⟩ := get_izs hi
        obtain ⟨u, hu, hux⟩ := Paired.get' h3 hx
        have sq : SqL Kf H2 a vs := SqL.of (fh _ _ (s2 _ _ h2))
        refine ⟨⟨vs, u, sq, hu⟩, fun y H3 ⟨e, hy⟩ => ?_⟩
        subst e
        have hy := hy vs sq
        rw [hu] at hy
        cases hy
        exact ⟨F2, Same.refl _, Same.refl _, fh, Newer.refl _ _, r.mono s2 hux⟩
      · rw [List.length_map, ← Paired.len h3]
        exact ⟨vs, SqL.of (fh _ _ (s2 _ _ h2)), Nat.le_refl _⟩
    · have up : ∀ {F2 H2 : Hp}, Same F1 F2 → Same F2 H2 → SqT Kf H2 a vs := fun s2 fh => .inl (h2.elim (fun h => .inl (fh _ _ (s2 _ _ h))) fun ⟨o, h⟩ => .inr ⟨o, fh _ _ (s2 _ _ h)⟩)
      refine .inr ⟨⟨_, up (Same.refl _) ok1.fh⟩, q _ Θ1 k _ F1 H1 s1 ok1 fun F2 H2 s2 fh => ⟨fun i p hi => ?_, ?_⟩⟩
      · obtain ⟨x, hx, rfl⟩ := get_izs hi
        obtain ⟨u, hu, hux⟩ := Paired.get' h3 hx
        have sq : SqT Kf H2 a vs := up s2 fh
        refine ⟨⟨vs, u, sq, hu⟩, fun y H3 ⟨e, hy⟩ => ?_⟩
        subst e
        have hy := hy vs sq
        rw [hu] at hy
        cases hy
        exact ⟨F2, Same.refl _, Same.refl _, fh, Newer.refl _ _, r.mono s2 hux⟩
      · rw [List.length_map, ← Paired.len h3]
        exact ⟨vs, up s2 fh, Nat.le_refl _⟩
/-! ### defaults -/
def spDf (sp : Sp) (dvs : List V) : Sp := fun vs H Q E => sp (vs ++ dvs) H Q E
theorem sps_df {sp : Sp} {dvs : List V} {dps : List Vp} {E : L2.St → XK} {ps : List Vp} (hd : Paired (fun (p : Vp) v => ∀ F, p.p F v) dps dvs) (w : Sps fr Γ Θ sp E (ps ++ dps) K) : Sps fr Γ Θ (spDf sp dvs) E ps K := fun σ F H vs ok env hps Q q =>
  w σ F H (vs ++ dvs) ok env (Paired.app hps (Paired.imp2 (fun _ _ h => h F) hd)) Q q
end
/-- the values that stand for the parameters that are left out -/
def Dfl (K : PySem.W.Frag) (mg : Str → Option Value) (x : Str) (ps : List Str) (dvs : List V) : Prop := ∀ f fd, mg x = some (.ref f) → LkF K f fd → ∃ ds, Vals dvs ds ∧ Binds K fd ps ds
section
variable {X : Cx} {CX : CXT} {k : Nat} {ps : List Str} {sp : Sp} {E : St → XK} {x : Str} {p pos : Pos} {e : Expr} {es : List Expr} {t : TA} {dvs : List V}
theorem pe_defD (D : Def X.prog X.w X.K X.mg X.base CX k x ps sp) (L : Dfl X.K X.mg x ps dvs) (hr : Room k X.A) (hx : ∀ σ, PassesAt CX X σ (E σ)) (ha : PA X (e :: es) t) (hg : Gl X x := by rfl)
    (hdb : (x == ("__debug__" : Str)) = false := by decide) (he : starEach (e :: es) X.env = (false, eval e X.env) :: starEach es X.env := by rfl) (hpl : (backTo pos (starEach es X.env)).any (·.1) = false := by rfl) :
    PE X (.Call (.Name x p) (e :: es) [] pos) (tCallS (spDf sp dvs) E t) := by
  obtain ⟨f, fd, hlk, h1, h2, h3, h4⟩ := D.ex
  obtain ⟨ds, hd, hb⟩ := L f fd h1 hlk
  exact pe_callSD h4 hr hg h1 h2 hb hd hx ha hdb he hpl
end
/-! ### in, with entries of any depth -/
theorem un65 {k : Nat} {A : Around} (r : Room k A) : A.units + 65 < cLine := by
  have := un200 r
  omega
section
variable {X : Cx} {K : PySem.W.Frag}
theorem kop_inD (hu : X.A.units + 65 < cLine) (h : X.K = K := by rfl) : OpR X (compareOp .In) (rInD K) := h ▸ op_inD hu
theorem kop_notInD (hu : X.A.units + 65 < cLine) (h : X.K = K := by rfl) : OpR X (compareOp .NotIn) (rNotInD K) := h ▸ op_notInD hu
end
section
variable {fr fr' : Fr} {Γ Γ' : Gam} {Θ Θ' : List Cel} {F F' H H' : Hp} {K : Vp → List Cel → Prop} {Qv : VK}
def LstY {α : Type} (fr : Fr) (Θ : List Cel) (p : Vp) (r : Rep α) (xs : List α) : Prop := ∀ F H v, OkF fr Θ F H → p.p F v → ∃ a vs, v = .ref a ∧ H a = some (.lst vs) ∧ PVs r F vs xs
theorem ly_L {α : Type} {r : Rep α} {xs : List α} : LstY fr Θ (iz (yL r) xs) r xs := fun F H v ok ⟨⟨a, vs, h1, h2, h3⟩, _⟩ => ⟨a, vs, h1, ok.fh _ _ h2, h3⟩
theorem ly_C {α : Type} {r : Rep α} {xs : List α} {a : Addr} {j : Nat} (hj : Θ[j]? = some (cY a r xs)) : LstY fr Θ (zAt a) r xs := fun F H v ok hv => by
  obtain ⟨_, ⟨o, h2, ⟨⟨vs, rfl, h4⟩, h5⟩⟩, _⟩ := ok.ce _ (List.mem_of_getElem? hj)
  exact ⟨a, vs, hv, h2, h4⟩
theorem pvs_dps {Kf : PySem.W.Frag} {α : Type} {r : Rep α} [d : Dat r] (fh : Same F H) {vs : List V} {xs : List α} (h : PVs r F vs xs) : DpAll Kf H vs (xs.map d.enc) := by
  induction h with
  | nil => exact .nil
  | cons a _ ih => exact .cons ((d.dp a).up fh) ih
theorem mem_any {α : Type} [DecidableEq α] {r : Rep α} [d : Dat r] {vs : List V} {v : V} {xs : List α} {x : α} (h : PVs r F vs xs) (hx : r.p F v x) : ((xs.map d.enc).any fun z => PyData.eqv z (d.enc x)) = decide (x ∈ xs) := by
  induction h with
  | nil => simp
  | cons a _ ih =>
    rename_i _ y _ _ _
    rw [List.map_cons, List.any_cons, ih, dat_eqv (r := r) a hx]
    by_cases e : y = x
    · subst e; simp
    · have e' : ¬ x = y := fun q => e q.symm
      simp [e, e']
theorem nb_all {α : Type} {r : Rep α} [d : Dat r] {vs : List V} {xs : List α} (h : PVs r F vs xs) : nb (.list (xs.map d.enc)) = true := by
  show nbAll (xs.map d.enc) = true
  induction h with
  | nil => rfl
  | cons a _ ih => show (nb _ && nbAll _) = true; rw [d.ok a]; exact ih
theorem dl_all {α : Type} {r : Rep α} [d : Dat r] (xs : List α) : (PyData.list (xs.map d.enc)).depth ≤ d.dep + 1 := by
  have : PyData.depthAll (xs.map d.enc) ≤ d.dep := by
    induction xs with
    | nil => simp [PyData.depthAll]
    | cons x xs ih =>
      rw [List.map_cons]
      simp only [PyData.depthAll]
      have := d.dl x
      omega
  simp only [PyData.depth]
  omega
theorem oy_inE {Kf : PySem.W.Frag} {α : Type} [DecidableEq α] {r : Rep α} [d : Dat r] {p : Vp} {x : α} {xs : List α} (h : LstY fr Θ p r xs) (hd : d.dep ≤ 60) [inst : Decidable (x ∈ xs)] (k : K (iz zB (@decide (x ∈ xs) inst)) Θ) : Ops fr Θ (rInD Kf) (iz r x) p K := fun F H v w ok hv hw Q q => by
  obtain ⟨a, vs, rfl, h2, h3⟩ := h F H w ok hw
  refine ⟨d.enc x, xs.map d.enc, (d.dp hv).up ok.fh, .lst (SqL.of h2) (pvs_dps ok.fh h3), shaped_of (d.ok hv) (Nat.le_trans (d.dl x) (by omega)), shaped_of (nb_all h3) (Nat.le_trans (dl_all xs) (by omega)), ?_⟩
  rw [mem_any h3 hv]
  refine q.go k ok ?_
  show V.bl _ = V.bl _
  congr
theorem oy_ninE {Kf : PySem.W.Frag} {α : Type} [DecidableEq α] {r : Rep α} [d : Dat r] {p : Vp} {x : α} {xs : List α} (h : LstY fr Θ p r xs) (hd : d.dep ≤ 60) [inst : Decidable (x ∈ xs)] (k : K (iz zB (!@decide (x ∈ xs) inst)) Θ) : Ops fr Θ (rNotInD Kf) (iz r x) p K := fun F H v w ok hv hw Q q => by
  obtain ⟨a, vs, rfl, h2, h3⟩ := h F H w ok hw
  refine ⟨d.enc x, xs.map d.enc, (d.dp hv).up ok.fh, .lst (SqL.of h2) (pvs_dps ok.fh h3), shaped_of (d.ok hv) (Nat.le_trans (d.dl x) (by omega)), shaped_of (nb_all h3) (Nat.le_trans (dl_all xs) (by omega)), ?_⟩
  rw [mem_any h3 hv]
  refine q.go k ok ?_
  show V.bl _ = V.bl _
  congr
end
instance {α : Type} {r : Rep α} : NotNon (yDT r) := ⟨fun F v x ⟨⟨a, o, kvs, h, _⟩, _⟩ => by rw [h]; exact fun q => by cases q⟩
instance {α : Type} {r : Rep α} : NotNon (ySq r) := ⟨fun F v x ⟨⟨a, vs, h, _⟩, _⟩ => by rw [h]; exact fun q => by cases q⟩
instance {α β γ δ ε : Type} {r : Rep α} {s : Rep β} {t : Rep γ} {u : Rep δ} {o : Rep ε} [d : XDat r] [e : XDat s] [f : XDat t] [g : XDat u] [l : XDat o] : XDat (z5 r s t u o) := ⟨fun x => .tuple [d.enc x.1, e.enc x.2.1, f.enc x.2.2.1, g.enc x.2.2.2.1, l.enc x.2.2.2.2], max d.dep (max e.dep (max f.dep (max g.dep l.dep))) + 1, fun ⟨a, v1, v2, v3, v4, v5, h1, h2, h3, h4, h5, h6, h7⟩ => by
  refine ⟨?_, ?_⟩
  · simp only [xp]
    exact ⟨a, _, h1, h2, by show 5 ≤ 100000; decide, by simp only [xpAll]; exact ⟨_, _, rfl, (d.xd h3).1, _, _, rfl, (e.xd h4).1, _, _, rfl, (f.xd h5).1, _, _, rfl, (g.xd h6).1, _, _, rfl, (l.xd h7).1, rfl⟩⟩
  · have := (d.xd h3).2
    have := (e.xd h4).2
    have := (f.xd h5).2
    have := (g.xd h6).2
    have := (l.xd h7).2
    simp only [PyData.depth, PyData.depthAll]
    omega⟩
instance {α β γ δ ε : Type} {r : Rep α} {s : Rep β} {t : Rep γ} {u : Rep δ} {o : Rep ε} [XDat r] [XDat s] [XDat t] [XDat u] [XDat o] : PDat (z5 r s t u o) := ⟨fun _ => rfl⟩
instance {α β γ δ : Type} {r : Rep α} {s : Rep β} {t : Rep γ} {u : Rep δ} [d : Dat r] [e : Dat s] [f : Dat t] [g : Dat u] : Dat (z4 r s t u) := ⟨fun x => .tuple [d.enc x.1, e.enc x.2.1, f.enc x.2.2.1, g.enc x.2.2.2], d.dep + e.dep + f.dep + g.dep + 1, fun ⟨a, v1, v2, v3, v4, h1, h2, h3, h4, h5, h6⟩ => by subst h1; exact .tup (SqT.of h2) (.cons (d.dp h3) (.cons (e.dp h4) (.cons (f.dp h5) (.cons (g.dp h6) .nil)))),
  fun ⟨a, v1, v2, v3, v4, h1, h2, h3, h4, h5, h6⟩ => by show (nb _ && (nb _ && (nb _ && (nb _ && true)))) = true; rw [d.ok h3, e.ok h4, f.ok h5, g.ok h6]; rfl, fun x => by
    have h1 := d.dl x.1
    have h2 := e.dl x.2.1
    have h3 := f.dl x.2.2.1
    have h4 := g.dl x.2.2.2
    simp only [PyData.depth, PyData.depthAll]
    omega, fun {x y} h => by
    have h := PyData.tuple.inj h
    rw [List.cons.injEq, List.cons.injEq, List.cons.injEq, List.cons.injEq] at h
    exact Prod.ext (d.inj h.1) (Prod.ext (e.inj h.2.1) (Prod.ext (f.inj h.2.2.1) (g.inj h.2.2.2.1)))⟩
/-! ### a def with defaults, out of what the top has left -/
section
variable {K : PySem.W.Frag} {h : Heap} {mg : Str → Option Value} {x : Str} {st : Stmt} {ps : List Str} {f T : Addr} {oc oc' : Value} {od od' an : Option Addr} {osl sl' : Array (Option Value)} {kV doc pm cdv ct : Value} {its : List Value} {n' : Nat} {dvs : List V}
theorem funD_mk (l : K.lookup f = some ⟨oc, od, .func (PySem.W.fnOf x x (defArgs st) (defBody st) (defScope st) (.ref T) kV doc pm an cdv ct), osl⟩) (c : PySem.W.codeIn K cdv x = true) (k : PySem.W.keepIn K (.ref f) = true)
    (dl : K.lookup T = some ⟨oc', od', .seq its.toArray n', sl'⟩) (rv : Vals dvs its) (hd : dvs ≠ []) : FunD K x x (defArgs st) (defBody st) (defScope st) dvs [] f (PySem.W.fnOf x x (defArgs st) (defBody st) (defScope st) (.ref T) kV doc pm an cdv ct) :=
  ⟨⟨oc, od, .ref T, kV, doc, pm, an, cdv, ct, osl, rfl, l, c, .inr ⟨hd, T, _, its, n', rfl, dl, rfl, rv⟩, .inl rfl⟩, k⟩
theorem srcD_mk (X : K.In h) (G : h.Ns mainGlobals mg) (a : PySem.W.nsIn K mainGlobals x = some (some (.ref f))) (l : K.lookup f = some ⟨oc, od, .func (PySem.W.fnOf x x (defArgs st) (defBody st) (defScope st) (.ref T) kV doc pm an cdv ct), osl⟩) (c : PySem.W.codeIn K cdv x = true) (k : PySem.W.keepIn K (.ref f) = true)
    (dl : K.lookup T = some ⟨oc', od', .seq its.toArray n', sl'⟩) (rv : Vals dvs its) (hd : dvs ≠ [])
    (hb : ∀ (T : Addr) (kV doc pm : Value) (an : Option Addr) (cdv ct : Value) (us its : List Value), us.length = ps.length → its.length = dvs.length → ∃ k, bindArgs (PySem.W.fnOf x x (defArgs st) (defBody st) (defScope st) (.ref T) kV doc pm an cdv ct) ⟨us, []⟩ = seqItems? (.ref T) >>= k ∧ k (some its.toArray) = pure (ps.zip us)) : Src K mg x st ps := by
  have F := funD_mk l c k dl rv hd
  obtain ⟨ds, h1, h2⟩ := F.binds1 (ps := ps) ps.length dvs.length hd (by omega) (fun T kV doc pm an cdv ct us its h1 h2 => by
    obtain ⟨k, e1, e2⟩ := hb T kV doc pm an cdv ct us its h1 h2
    refine ⟨k, e1, ?_⟩
    rw [e2, ← h2, List.drop_length, List.append_nil])
  rw [List.drop_length] at h1
  cases h1
  exact ⟨f, _, ⟨⟨oc, od, .ref T, kV, doc, pm, an, cdv, ct, osl, rfl, l, c⟩, k⟩, PySem.W.mg_of X G a, h2⟩
theorem dfl_mk (n : Nat) (X : K.In h) (G : h.Ns mainGlobals mg) (a : PySem.W.nsIn K mainGlobals x = some (some (.ref f))) (l : K.lookup f = some ⟨oc, od, .func (PySem.W.fnOf x x (defArgs st) (defBody st) (defScope st) (.ref T) kV doc pm an cdv ct), osl⟩) (c : PySem.W.codeIn K cdv x = true) (k : PySem.W.keepIn K (.ref f) = true)
    (dl : K.lookup T = some ⟨oc', od', .seq its.toArray n', sl'⟩) (rv : Vals dvs its) (hd : dvs ≠ []) (hn : n + dvs.length = ps.length)
    (hb : ∀ (T : Addr) (kV doc pm : Value) (an : Option Addr) (cdv ct : Value) (us its : List Value), us.length = n → its.length = dvs.length → ∃ k, bindArgs (PySem.W.fnOf x x (defArgs st) (defBody st) (defScope st) (.ref T) kV doc pm an cdv ct) ⟨us, []⟩ = seqItems? (.ref T) >>= k ∧ k (some its.toArray) = pure (ps.zip (us ++ its))) : Dfl K mg x ps dvs := by
  intro f' fd' hm ⟨oc2, od2, osl2, lk⟩
  rw [PySem.W.mg_of X G a] at hm
  cases hm
  rw [l] at lk
  cases lk
  have F := funD_mk l c k dl rv hd
  exact F.binds1 (ps := ps) n 0 hd (by omega) (fun T kV doc pm an cdv ct us its h1 h2 => hb T kV doc pm an cdv ct us its h1 h2)
end
end L2

set_option Elab.async false
set_option linter.all false
set_option maxRecDepth 100000
set_option maxHeartbeats 4000000
/-! Lent cells; own classes: instances that are built, frozen, read. -/
namespace L2
open PySem PySem.Spec PyProof.Rows PySem.HErr
/-! ### the empty tuple, or a tuple -/
def yE {α : Type} (r : Rep α) : Rep (Option α) := ⟨fun F v x => match x with | none => ∃ a, v = .ref a ∧ F a = some (.tup []) | some y => r.p F v y, fun {F F' v x} e h => by
  cases x with
  | none => obtain ⟨a, h1, h2⟩ := h; exact ⟨a, h1, e _ _ h2⟩
  | some y => exact r.mono e h⟩
theorem le_E0 {α : Type} {r : Rep α} : (iz (yT zI) []).Le (iz (yE r) none) := fun F v ⟨⟨a, vs, h1, h2, h3⟩, _⟩ => by
  cases h3
  exact ⟨a, h1, h2⟩
theorem le_E1 {α : Type} {r : Rep α} {x : α} : (iz r x).Le (iz (yE r) (some x)) := fun _ _ h => h
theorem le_Ez {α : Type} {r : Rep α} {o : Option α} {x : α} (e : o = some x) : (iz (yE r) o).Le (iz r x) := fun _ _ h => by
  subst e
  exact h
def lenE {α : Type} (n : Nat) (o : Option α) : Nat := if o.isSome = true then n else 0
section
variable {fr fr' : Fr} {Γ Γ' : Gam} {Θ Θ' Θr : List Cel} {F F' H H' : Hp} {K : Vp → List Cel → Prop} {Qv : VK}
theorem cy_lenE {Kf : PySem.W.Frag} {α β : Type} {r : Rep α} {s : Rep β} {o : Option (α × β)} (k : K (iz zI (lenE 2 o)) Θ) : Cbs fr Θ (rLenQ Kf) [iz (yE (z2 r s)) o] K := fun F H vs ok hps Q q => by
  cases hps with
  | cons h1 hp => cases hp with
    | nil =>
      cases o with
      | none =>
        obtain ⟨a, rfl, h2⟩ := h1
        exact ⟨a, [], rfl, .inr (SqT.of (ok.fh _ _ h2)), q.go k ok rfl⟩
      | some x =>
        obtain ⟨a, u, w, rfl, h2, _, _⟩ := h1
        exact ⟨a, [u, w], rfl, .inr (SqT.of (ok.fh _ _ h2)), q.go k ok rfl⟩
/-! ### lent cells -/
theorem perm_at {j : Nat} {c : Cel} (hj : Θ[j]? = some c) : Θ.Perm (c :: Θ.eraseIdx j) := by
  induction Θ generalizing j with
  | nil => cases hj
  | cons d Θ ih =>
    cases j with
    | zero => cases hj; exact .refl _
    | succ j => exact ((ih hj).cons d).trans (.swap c d _)
def preL {α β γ : Type} (ef : HE → Er) (args : List Addr → α → List Vp) (cin : List Addr → α → List Cel) (r : Rep β) (cout : List Addr → α → γ → List Cel) (m : α → DM (β × γ)) : PreC := fun ps Θ out err =>
  ∃ as x Q X, ps = args as x ∧ Θ = cin as x ∧ m x Q X ∧ (out = fun p Θ' => ∃ y g, Q (y, g) ∧ p = iz r y ∧ Θ' = cout as x g) ∧ (err = fun e Θ' => ∃ z g, X z ∧ e = ef z ∧ Θ' = cout as x g)
theorem sps_L {α β γ : Type} {ef : HE → Er} {args : List Addr → α → List Vp} {cin : List Addr → α → List Cel} {r : Rep β} {cout : List Addr → α → γ → List Cel} {m : α → DM (β × γ)} {E : L2.St → XK} {ps : List Vp} {Q : β × γ → Prop} {X : HE → Prop} (as : List Addr) (x : α) (pm : Θ.Perm (cin as x ++ Θr)) (h : m x Q X)
    (xx : ∀ z, X z → ∀ g, Kr fr Γ (cout as x g ++ Θr) (fun cls d σ H => E σ cls d H) (ef z)) (k : ∀ y g, Q (y, g) → K (iz r y) (cout as x g ++ Θr)) (e : ps = args as x := by rfl) : Sps fr Γ Θ (spC (preL ef args cin r cout m)) E ps K :=
  sps_C ⟨as, x, Q, X, e, rfl, h, rfl, rfl⟩ pm (fun p Θ' ⟨y, g, hq, e1, e2⟩ => by subst e1 e2; exact k y g hq) fun er Θ' ⟨z, g, hz, e1, e2⟩ => by subst e1 e2; exact xx z hz g
theorem sps_L0 {α β γ : Type} {ef : HE → Er} {args : List Addr → α → List Vp} {cin : List Addr → α → List Cel} {r : Rep β} {cout : List Addr → α → γ → List Cel} {m : α → DM (β × γ)} {E : L2.St → XK} {ps : List Vp} {Q : β × γ → Prop} (as : List Addr) (x : α) (pm : Θ.Perm (cin as x ++ Θr)) (h : m x Q noX)
    (k : ∀ y g, Q (y, g) → K (iz r y) (cout as x g ++ Θr)) (e : ps = args as x := by rfl) : Sps fr Γ Θ (spC (preL ef args cin r cout m)) E ps K := sps_L as x pm h (fun z hz => hz.elim) k e
theorem sps_LE {α β γ : Type} {ef : HE → Er} {args : List Addr → α → List Vp} {cin : List Addr → α → List Cel} {r : Rep β} {cout : List Addr → α → γ → List Cel} {m : α → DM (β × γ)} {E : XK} {ps : List Vp} {Q : β × γ → Prop} {X : HE → Prop} (hx : RseW fr E ef X) (as : List Addr) (x : α) (pm : Θ.Perm (cin as x ++ Θr)) (h : m x Q X)
    (k : ∀ y g, Q (y, g) → K (iz r y) (cout as x g ++ Θr)) (e : ps = args as x := by rfl) : Sps fr Γ Θ (spC (preL ef args cin r cout m)) (fun _ => E) ps K := sps_L as x pm h (fun z hz g => hx z hz Γ _) k e
/-- what a def with lent cells returns -/
def RetL {β γ : Type} (fr : Fr) (Qv : VK) (r : Rep β) (cout : γ → List Cel) (Q : β × γ → Prop) : Prop := ∀ y g, Q (y, g) → ∀ Θ'' Θx, Θ''.Perm (cout g ++ Θx) → Rt fr Θ'' Qv (iz r y)
theorem RetL.fine {β γ : Type} {r : Rep β} {cout : γ → List Cel} {Q : β × γ → Prop} (h : RetL fr Qv r cout Q) (l : FrLe fr fr') : RetL fr' Qv r cout Q := fun y g hq Θ'' Θx pm => (h y g hq Θ'' Θx pm).fine l
/-- an error may leave: the cells hold something -/
def RseL {γ : Type} (fr : Fr) (E : XK) (ef : HE → Er) (cout : γ → List Cel) (X : HE → Prop) : Prop := ∀ z, X z → ∀ g Θ'' Θx, Θ''.Perm (cout g ++ Θx) → ∀ Γ, Kr fr Γ Θ'' (fun cls d _ H => E cls d H) (ef z)
theorem RseL.fine {γ : Type} {E : XK} {ef : HE → Er} {cout : γ → List Cel} {X : HE → Prop} (h : RseL fr E ef cout X) (l : FrLe fr fr') : RseL fr' E ef cout X := fun z hz g Θ'' Θx pm Γ σ F H ok env d us hd hf => h z hz g Θ'' Θx pm Γ σ F H (ok.le l) env d us hd hf
/-- append by any way to one's own list -/
theorem kn_appE {Kf : PySem.W.Frag} {α : Type} {r : Rep α} {to te : TE} {D : Ends} (w : We fr Γ Θ to fun p0 Θ0 => ∃ (a : Addr) (xs : List α) (j : Nat), p0 = zAt a ∧ Θ0[j]? = some (cY a r xs) ∧ We fr Γ Θ0 te fun p Θ1 => ∃ x, p = iz r x ∧ Θ1[j]? = some (cY a r xs) ∧ xs.length < big ∧ Kn fr Γ (Θ1.set j (cY a r (xs ++ [x]))) D.nx) : Kn fr Γ Θ (tDrop (tBM Kf "list" rAppend to (tCons te tNil)) D) := by
  refine kn_drop (we_bm (w.imp fun p0 Θ0 ⟨a, xs, j, e0, hj, w1⟩ => ⟨fun F H v ok hv => ?_, wa_cons (w1.imp fun p Θ1 ⟨x, e, hj1, hl, k⟩ => wa_nil ?_)⟩))
  · subst e0
    obtain ⟨_, ⟨o, h2, ⟨⟨vs, rfl, h4⟩, h5⟩⟩, _⟩ := ok.ce _ (List.mem_of_getElem? hj)
    have hv : v = .ref a := hv
    subst hv
    exact .inl ⟨rfl, vs, SqL.of h2⟩
  · subst e e0
    intro F H v vs ok hv hps Q q
    cases hps with
    | cons h1 hp => cases hp with
      | nil =>
        obtain ⟨_, ⟨o, h2, ⟨⟨us, rfl, h4⟩, h5⟩⟩, _⟩ := ok.ce _ (List.mem_of_getElem? hj1)
        have ok2 := ok.mut (c' := cY a r (xs ++ [x])) (o := .lst (us ++ [_])) hj1 rfl rfl ⟨⟨_, rfl, PySem.Paired.snoc h4 h1⟩, by rw [List.length_append]; exact hl⟩
        exact ⟨a, us, _, hv, rfl, h2, by rw [Paired.len h4]; exact big_lt (Nat.le_of_lt hl), q zNon _ k _ F _ (Same.refl F) ok2 rfl⟩
/-! ### instances -/
/-- a frozen instance of the class at C, its fields as g tells -/
def zIn {α : Type} (C : Addr) (g : α → List (Str × Vp)) : Rep α := ⟨fun F v x => ∃ a dx us, v = .ref a ∧ F a = some (.ins C dx us) ∧ FsOk F (g x) us, fun e ⟨a, dx, us, h1, h2, h3⟩ => ⟨a, dx, us, h1, e _ _ h2, h3.mono e⟩⟩
instance {α : Type} {C : Addr} {g : α → List (Str × Vp)} : NotNon (zIn C g) := ⟨fun F v x ⟨a, dx, us, h, _⟩ => by rw [h]; exact fun q => by cases q⟩
/-- the class at C stands, and has none of the fields' names -/
structure ClsF (K : PySem.W.Frag) (C : Addr) (fs : List Str) : Prop where
  cl : Cls K C
  no : ∀ f ∈ fs, NoAttr K C f
theorem fld_in {Kf : PySem.W.Frag} {α : Type} {C : Addr} {g : α → List (Str × Vp)} {x : α} {f : Str} {fs : List Str} {q : Vp} (T : ClsF Kf C fs) (hf : f ∈ fs) (h : (g x).lookup f = some q) : FldP fr Θ Kf f (iz (zIn C g) x) q := fun F H v ok ⟨a, dx, us, h1, h2, h3⟩ => by
  obtain ⟨u, h4, h5⟩ := h3.look h
  exact ⟨a, C, dx, us, u, h1, ok.fh _ _ h2, T.cl, T.no f hf, h4, h5⟩
theorem fld_own {Kf : PySem.W.Frag} {a C dx : Addr} {fl : List (Str × Vp)} {f : Str} {fs : List Str} {q : Vp} {j : Nat} (T : ClsF Kf C fs) (hf : f ∈ fs) (hj : Θ[j]? = some (cI a C dx fl)) (h : fl.lookup f = some q) : FldP fr Θ Kf f (zAt a) q := fld_C (List.mem_of_getElem? hj) T.cl (T.no f hf) h
theorem fs_none {F : Hp} {m : Str} : ∀ {fs : List (Str × Vp)} {us : List (Str × V)}, FsOk F fs us → fs.lookup m = none → us.lookup m = none
  | _, _, .nil, _ => rfl
  | (f, p) :: fs, (g, u) :: us, .cons ⟨h1, _⟩ r, h => by
    have h1 : f = g := h1
    subst h1
    rw [List.lookup_cons] at h ⊢
    split at h
    · cases h
    · exact fs_none r h
theorem ins_in {α : Type} {C : Addr} {g : α → List (Str × Vp)} {x : α} {m : Str} (h : (g x).lookup m = none) : InsP fr Θ (iz (zIn C g) x) C m := fun F H v ok ⟨a, dx, us, h1, h2, h3⟩ => ⟨a, dx, us, h1, ok.fh _ _ h2, fs_none h3 h⟩
theorem ins_own {a C dx : Addr} {fl : List (Str × Vp)} {m : Str} {j : Nat} (hj : Θ[j]? = some (cI a C dx fl)) (h : fl.lookup m = none) : InsP fr Θ (zAt a) C m := fun F H v ok hv => by
  obtain ⟨_, ⟨o, h2, us, rfl, h6⟩, _⟩ := ok.ce _ (List.mem_of_getElem? hj)
  exact ⟨a, dx, us, hv, h2, fs_none h6 h⟩
/-- self.f = e, of one's own instance -/
theorem kn_putF {Kf : PySem.W.Frag} {f : Str} {fs : List Str} {ta tv : TE} {D : Ends} {C : Addr} (T : ClsF Kf C fs) (hf : f ∈ fs) (w : We fr Γ Θ tv fun p Θ1 => We fr Γ Θ1 ta fun q Θ2 => ∃ a dx fl j, q = zAt a ∧ Θ2[j]? = some (cI a C dx fl) ∧ fl.length < 1000 ∧ Kn fr Γ (Θ2.set j (cI a C dx (putP f p fl))) D.nx) : Kn fr Γ Θ (sFld Kf ta tv f D) :=
  kn_fldPut (w.imp fun p Θ1 h => h.imp fun q Θ2 ⟨a, dx, fl, j, e, hj, hl, k⟩ => ⟨a, C, dx, fl, j, e, hj, T.cl, T.no f hf, hl, k⟩)
/-- one's own list in a field is frozen -/
theorem FsOk.at {F : Hp} {fl : List (Str × Vp)} {us : List (Str × V)} (h : FsOk F fl us) {k : Nat} {f : Str} {p q : Vp} (hk : fl[k]? = some (f, p)) (hq : ∀ v, p.p F v → q.p F v) : FsOk F (fl.set k (f, q)) us := by
  induction h generalizing k with
  | nil => cases hk
  | cons a b ih =>
    cases k with
    | zero =>
      cases hk
      exact .cons ⟨a.1, hq _ a.2⟩ b
    | succ k => exact .cons a (ih hk)
theorem okf_cI {a C dx : Addr} {fl fl' : List (Str × Vp)} {i : Nat} (ok : OkF fr Θ F H) (hi : Θ[i]? = some (cI a C dx fl)) (h : ∀ us, FsOk F fl us → FsOk F fl' us) : OkF fr (Θ.set i (cI a C dx fl')) F H := by
  have hm := List.mem_of_getElem? hi
  obtain ⟨h1, ⟨o, h2, us, rfl, h4⟩, h5⟩ := ok.ce _ hm
  have := ok.mut (c' := cI a C dx fl') (o := .ins C dx us) hi rfl rfl ⟨us, rfl, h us h4⟩
  have e : upd H (cI a C dx fl).a (.ins C dx us) = H := by
    funext b
    by_cases q : b = a
    · rw [q]; exact (upd_same (a := a)).trans h2.symm
    · exact upd_ne q
  rw [e] at this
  exact this
theorem set_erase {α : Type} : ∀ {l : List α} {i j : Nat} {x c : α}, i ≠ j → l[i]? = some c → ∃ i2, (l.eraseIdx j)[i2]? = some c ∧ (l.eraseIdx j).set i2 x = (l.set i x).eraseIdx j
  | [], _, _, _, _, _, h => nomatch h
  | d :: l, 0, 0, _, _, h, _ => absurd rfl h
  | d :: l, 0, j + 1, x, c, _, h => ⟨0, h, rfl⟩
  | d :: l, i + 1, 0, x, c, _, h => ⟨i, h, rfl⟩
  | d :: l, i + 1, j + 1, x, c, hn, h => by
    obtain ⟨i2, h1, h2⟩ := set_erase (l := l) (i := i) (j := j) (x := x) (c := c) (by omega) h
    exact ⟨i2 + 1, h1, congrArg (d :: ·) h2⟩
theorem kn_frzF {α : Type} {r : Rep α} {xs : List α} {a x C dx : Addr} {fl : List (Str × Vp)} {i j k : Nat} {f : Str} {P : L2.St → Hp → Prop} (hi : Θ[i]? = some (cI x C dx fl)) (hk : fl[k]? = some (f, zAt a)) (hij : i ≠ j) (hj : Θ[j]? = some (cY a r xs)) (kk : Kn fr Γ ((Θ.set i (cI x C dx (fl.set k (f, iz (yL r) xs)))).eraseIdx j) P) : Kn fr Γ Θ P := fun σ F H ok env => by
  obtain ⟨h0, ⟨o, h2, ⟨⟨vs, rfl, h4⟩, h5⟩⟩, _⟩ := ok.ce _ (List.mem_of_getElem? hj)
  have sF : Same F (upd F a (.lst vs)) := same_upd h0
  have ok2 := ok.frz hj rfl h2
  -- first freeze, then tell the field
  have ok3 : OkF fr ((Θ.set i (cI x C dx (fl.set k (f, iz (yL r) xs)))).eraseIdx j) (upd F a (.lst vs)) H := by
    have hi2 := set_erase (x := cI x C dx (fl.set k (f, iz (yL r) xs))) hij hi
    obtain ⟨i2, e1, e2⟩ := hi2
    rw [← e2]
    refine okf_cI ok2 e1 fun us hu => hu.at hk fun v hv => ?_
    have hv : v = .ref a := hv
    subst hv
    exact ⟨⟨a, vs, rfl, upd_same, Paired.imp2 (fun _ _ h => r.mono sF h) h4⟩, h5⟩
  exact kk σ _ H ok3 (env.mono sF)
/-- one's own dict in a field is locked -/
theorem kn_lkF {α : Type} {r : Rep α} {rows : List (List Int × α)} {a x C dx : Addr} {fl : List (Str × Vp)} {i j k : Nat} {f : Str} {t : TS} {D : Ends} (hi : Θ[i]? = some (cI x C dx fl)) (hk : fl[k]? = some (f, zAt a)) (hij : i ≠ j) (hj : Θ[j]? = some (cYT a r rows)) (kk : Kn fr Γ ((Θ.set i (cI x C dx (fl.set k (f, iz (yDT r) rows)))).eraseIdx j) (t D)) : Kn fr Γ Θ (tLk t D) := fun σ F H ok env => by
  obtain ⟨_, ⟨o, h2, ⟨⟨kvs, rfl, h4⟩, h5⟩⟩, _⟩ := ok.ce _ (List.mem_of_getElem? hj)
  refine ⟨a, _, h2, True.intro, fun od => ?_⟩
  obtain ⟨h0, sF, ok2⟩ := ok.lock (od := od) hj rfl rfl h2
  have ok3 : OkF fr ((Θ.set i (cI x C dx (fl.set k (f, iz (yDT r) rows)))).eraseIdx j) (upd F a (.frz od (.dT kvs))) (upd H a (.frz od (.dT kvs))) := by
    obtain ⟨i2, e1, e2⟩ := set_erase (x := cI x C dx (fl.set k (f, iz (yDT r) rows))) hij hi
    rw [← e2]
    refine okf_cI ok2 e1 fun us hu => hu.at hk fun v hv => ?_
    have hv : v = .ref a := hv
    subst hv
    exact ⟨⟨a, od, kvs, rfl, upd_same, h4.mono sF⟩, h5⟩
  exact kk σ _ _ ok3 (env.mono sF)
theorem pss_lkE {X : Cx} {ss : List Stmt} {t : TS} (h : PSs X ss t) : PSs X ss (tLk t) := by
  refine ⟨fun pins s σ H D I hw => ?_⟩
  obtain ⟨d, u, hd, mu, hw⟩ := hw
  obtain ⟨od, I1⟩ := I.lock hd mu
  exact h.run pins s σ _ _ I1 (hw od)
/-- what __init__ is to end with -/
def InitW {α : Type} (fr : Fr) (x C : Addr) (g : α → List (Str × Vp)) (Qn : L2.St → Hp → Prop) (Q : α → Prop) : Prop := ∀ y, Q y → ∀ (Γ : Gam) (Θ : List Cel) (i : Nat) (dx : Addr), Θ[i]? = some (cI x C dx (g y)) → Kn fr Γ Θ Qn
end
section
variable {P : Program} {w : World} {K : PySem.W.Frag} {mg : Str → Option Value} {base : Heap} {x m qual : Str} {C : Addr} {st : Stmt} {N ps : List Str} {k : Nat} {α β γ : Type} {ef : HE → Er} {args : List Addr → α → List Vp} {cin : List Addr → α → List Cel} {cout : List Addr → α → γ → List Cel} {r : Rep β} {md : α → DM (β × γ)}
theorem lent_len (len : ∀ as x, (args as x).length = ps.length) (own : ∀ as x, ∀ c ∈ cin as x, c.own = true) : ∀ qs Θ out err, preL ef args cin r cout md qs Θ out err → qs.length = ps.length ∧ ∀ c ∈ Θ, c.own = true := fun qs Θ out err ⟨as, a, Q, X, e1, e2, _⟩ => by
  subst e1 e2
  exact ⟨len as a, own as a⟩
theorem Src.okL (F : Src K mg x st ps) (S : FnScope N ps (defScope st)) (len : ∀ as x, (args as x).length = ps.length) (own : ∀ as x, ∀ c ∈ cin as x, c.own = true) (tg : ∀ as x g, (cout as x g).map tagC = (cin as x).map tagC)
    (hbody : ∀ (f : Addr) (cdv : Value) (A : Around) (outer : List Env) (s : Shared) (H : Hp) (E : XK) (as : List Addr) (a : α) (Q : β × γ → Prop) (X : HE → Prop), Room k (A.deeper (envOfC x (defScope st) s.heap.objs.size f cdv)) → md a Q X →
      ∃ t, PSs (cxOf CX0 P w K mg base N x (defScope st) f cdv A outer s H E).nox (defBody st) t ∧ ∀ fr Qv, RetL fr Qv r (cout as a) Q → Kn fr (envOf N (args as a)) (cin as a) (t { nx := fun _ H' => Qv .non H', rt := Qv })) : Def P w K mg base CX0 (k + 1) x ps (spC (preL ef args cin r cout md)) :=
  F.okC S (lent_len len own) fun f cdv A outer s H E qs Θ out err hr ⟨as, a, Q, X, e1, e2, h, e3, e4⟩ => by
    subst e1 e2 e3 e4
    obtain ⟨t, ht, hk⟩ := hbody f cdv A outer s H E as a Q X hr h
    exact ⟨t, ht, fun fr Qv hret => hk fr Qv fun y g hq Θ'' Θx pm => hret _ _ ⟨y, g, hq, rfl, rfl⟩ (tg as a g) Θ'' Θx pm⟩
theorem Src.okLX (F : Src K mg x st ps) (S : FnScope N ps (defScope st)) (len : ∀ as x, (args as x).length = ps.length) (own : ∀ as x, ∀ c ∈ cin as x, c.own = true) (tg : ∀ as x g, (cout as x g).map tagC = (cin as x).map tagC)
    (hbody : ∀ (f : Addr) (cdv : Value) (A : Around) (outer : List Env) (s : Shared) (H : Hp) (E : XK) (as : List Addr) (a : α) (Q : β × γ → Prop) (X : HE → Prop), Room k (A.deeper (envOfC x (defScope st) s.heap.objs.size f cdv)) → md a Q X →
      ∃ t, PSs (cxOf (L2.CX P w) P w K mg base N x (defScope st) f cdv A outer s H E) (defBody st) t ∧ ∀ fr Qv, RetL fr Qv r (cout as a) Q → RseL fr E ef (cout as a) X → Kn fr (envOf N (args as a)) (cin as a) (t { nx := fun _ H' => Qv .non H', rt := Qv })) : Def P w K mg base (L2.CX P w) (k + 1) x ps (spC (preL ef args cin r cout md)) :=
  F.okCX S (lent_len len own) fun f cdv A outer s H E qs Θ out err hr ⟨as, a, Q, X, e1, e2, h, e3, e4⟩ => by
    subst e1 e2 e3 e4
    obtain ⟨t, ht, hk⟩ := hbody f cdv A outer s H E as a Q X hr h
    exact ⟨t, ht, fun fr Qv hret hrse => hk fr Qv (fun y g hq Θ'' Θx pm => hret _ _ ⟨y, g, hq, rfl, rfl⟩ (tg as a g) Θ'' Θx pm) fun z hz g Θ'' Θx pm Γ σ F' H' ok env d us hd hf => hrse _ _ ⟨z, g, hz, rfl, rfl⟩ (tg as a g) Θ'' Θx pm F' H' d us ok hd hf⟩
theorem SrcM.okL (F : SrcM K C m qual st ps) (S : FnScope N ps (defScope st)) (len : ∀ as x, (args as x).length = ps.length) (own : ∀ as x, ∀ c ∈ cin as x, c.own = true) (tg : ∀ as x g, (cout as x g).map tagC = (cin as x).map tagC)
    (hbody : ∀ (f : Addr) (cdv : Value) (A : Around) (outer : List Env) (s : Shared) (H : Hp) (E : XK) (as : List Addr) (a : α) (Q : β × γ → Prop) (X : HE → Prop), Room k (A.deeper (envOfC qual (defScope st) s.heap.objs.size f cdv)) → md a Q X →
      ∃ t, PSs (cxOf CX0 P w K mg base N qual (defScope st) f cdv A outer s H E).nox (defBody st) t ∧ ∀ fr Qv, RetL fr Qv r (cout as a) Q → Kn fr (envOf N (args as a)) (cin as a) (t { nx := fun _ H' => Qv .non H', rt := Qv })) : DefM P w K mg base CX0 (k + 1) C m ps (spC (preL ef args cin r cout md)) :=
  F.okC S (lent_len len own) fun f cdv A outer s H E qs Θ out err hr ⟨as, a, Q, X, e1, e2, h, e3, e4⟩ => by
    subst e1 e2 e3 e4
    obtain ⟨t, ht, hk⟩ := hbody f cdv A outer s H E as a Q X hr h
    exact ⟨t, ht, fun fr Qv hret => hk fr Qv fun y g hq Θ'' Θx pm => hret _ _ ⟨y, g, hq, rfl, rfl⟩ (tg as a g) Θ'' Θx pm⟩
theorem SrcM.okLX (F : SrcM K C m qual st ps) (S : FnScope N ps (defScope st)) (len : ∀ as x, (args as x).length = ps.length) (own : ∀ as x, ∀ c ∈ cin as x, c.own = true) (tg : ∀ as x g, (cout as x g).map tagC = (cin as x).map tagC)
    (hbody : ∀ (f : Addr) (cdv : Value) (A : Around) (outer : List Env) (s : Shared) (H : Hp) (E : XK) (as : List Addr) (a : α) (Q : β × γ → Prop) (X : HE → Prop), Room k (A.deeper (envOfC qual (defScope st) s.heap.objs.size f cdv)) → md a Q X →
      ∃ t, PSs (cxOf (L2.CX P w) P w K mg base N qual (defScope st) f cdv A outer s H E) (defBody st) t ∧ ∀ fr Qv, RetL fr Qv r (cout as a) Q → RseL fr E ef (cout as a) X → Kn fr (envOf N (args as a)) (cin as a) (t { nx := fun _ H' => Qv .non H', rt := Qv })) : DefM P w K mg base (L2.CX P w) (k + 1) C m ps (spC (preL ef args cin r cout md)) :=
  F.okCX S (lent_len len own) fun f cdv A outer s H E qs Θ out err hr ⟨as, a, Q, X, e1, e2, h, e3, e4⟩ => by
    subst e1 e2 e3 e4
    obtain ⟨t, ht, hk⟩ := hbody f cdv A outer s H E as a Q X hr h
    exact ⟨t, ht, fun fr Qv hret hrse => hk fr Qv (fun y g hq Θ'' Θx pm => hret _ _ ⟨y, g, hq, rfl, rfl⟩ (tg as a g) Θ'' Θx pm) fun z hz g Θ'' Θx pm Γ σ F' H' ok env d us hd hf => hrse _ _ ⟨z, g, hz, rfl, rfl⟩ (tg as a g) Θ'' Θx pm F' H' d us ok hd hf⟩
theorem SrcI.okW {α β : Type} {args : α → List Vp} {md : α → DM β} {g : β → List (Str × Vp)} (F : SrcI K C qual st ps) (S : FnScope N ps (defScope st)) (len : ∀ x, (args x).length + 1 = ps.length)
    (hbody : ∀ (f : Addr) (cdv : Value) (A : Around) (outer : List Env) (s : Shared) (H : Hp) (E : XK) (a : α) (Q : β → Prop) (X : HE → Prop), Room k (A.deeper (envOfC qual (defScope st) s.heap.objs.size f cdv)) → md a Q X →
      ∃ t, PSs (cxOf (L2.CX P w) P w K mg base N qual (defScope st) f cdv A outer s H E) (defBody st) t ∧ ∀ fr x dx (Qn : L2.St → Hp → Prop) (rt : VK), InitW fr x C g Qn Q → RseW fr E ef X → Kn fr (envOf N (zAt x :: args a)) [cI x C dx []] (t { nx := Qn, rt := rt })) : DefI P w K mg base (L2.CX P w) (k + 1) C ps (spI C (preW ef args (zIn C g) md)) :=
  F.okAX S (fun qs out err ⟨a, Q, X, e, _⟩ => by rw [e]; exact len a) fun f cdv A outer s H E qs out err hr ⟨a, Q, X, e1, h, e2, e3⟩ => by
    subst e1 e2 e3
    obtain ⟨t, ht, hk⟩ := hbody f cdv A outer s H E a Q X hr h
    refine ⟨t, ht, fun fr x dx Qn rt hq hrt hrse => hk fr x dx Qn rt (fun y hy Γ Θ i dx' hi σ F' H' ok env => ?_) fun z hz Γ Θ => kr_E hrse ⟨z, hz, rfl⟩⟩
    obtain ⟨h1, ⟨o, h2, us, rfl, h4⟩, h5⟩ := ok.ce _ (List.mem_of_getElem? hi)
    have ok2 := ok.frz hi rfl h2
    have sF : Same F' (upd F' x (.ins C dx' us)) := same_upd h1
    exact hq _ ⟨y, hy, rfl⟩ σ _ H' ⟨_, ok2⟩ ⟨x, dx', us, rfl, upd_same, h4.mono sF⟩
end
end L2

set_option Elab.async false
set_option linter.all false
set_option maxRecDepth 100000
set_option maxHeartbeats 4000000
/-! Operators of own classes: + - * // between instances and ints, comparisons, -x, abs, bool, str. -/
namespace L2
open PySem PySem.Spec PyProof.Rows PySem.HErr
open PySem.W (findIn isFn selfFirst subIn)
/-- what an operator nm of the class at C asks -/
structure OpC (K : PySem.W.Frag) (C : Addr) (nm : String) : Prop where
  sf : selfFirst K C = true
  si : subIn K (.type "int") (.ref C) = some false
  is : subIn K (.ref C) (.type "int") = some false
  rc : ∃ rc, findIn K (.ref C) (dunderR nm) = some rc ∧ (rc = none ∨ ∃ g : Addr, rc = some (.ref g))
  fo : ∃ fo, findIn K (.type "int") (PySem.dunder nm) = some fo
  ro : ∃ ro, findIn K (.type "int") (dunderR nm) = some ro
section
variable {P : Program} {w : World} {A : Around} {E : Value → Shared → Prop} {s : Shared} {K : PySem.W.Frag} {x C f : Addr} {ox : Obj} {od : Option Obj}
theorem cls_first (hc : selfFirst K C = true) : ∃ cd rest, PySem.W.clsIn K C = some cd ∧ cd.mro = .ref C :: rest := PySem.W.ksp_first hc
/-- both of one class -/
theorem bin_same {op : Operator} {b : Value} {Q : Value → Shared → Prop} (X : K.In s.heap) (I : PySem.W.InstAt s.heap x ox C od) (hb : PySem.W.Looks (model P w) s.heap (typeOf b) (.ref C)) (hc : selfFirst K C = true)
    (hs : findIn K (.ref C) (PySem.dunder op.info.2) = some (some (.ref f))) (hf : isFn K (.ref f) = true)
    (h : wpAny (model P w) A (call (.ref f) [.ref x, b]) (PySem.W.CmpBack Q) E s) : wpAny (model P w) A (binaryOp op (.ref x) b) Q E s := by
  obtain ⟨cd, rest, hcd, hm⟩ := cls_first hc
  rcases hi : op.info with ⟨sym, nm⟩
  rw [hi] at hs
  have one := PySem.W.ksp_try X I hs hf h
  have L3 : PySem.W.Looks (model P w) s.heap (fillsNumberSlot (.ref C) nm) true := PySem.W.fills_K X hcd hm hs
  have L1 : PySem.W.Looks (model P w) s.heap (typeOf (.ref x)) (.ref C) := I.type
  obtain ⟨hh, g, d, tt, os⟩ := s
  simp only [binaryOp, hi]
  refine wpAny_holding (wpAny_bind ?_)
  unfold binaryOp1
  refine wpAny_bind (L1.here ?_)
  refine wpAny_bind (hb.here ?_)
  refine wpAny_bind (L3.here ?_)
  simp only [beq_self_eq_true, if_true]
  ksp_lk
  exact wpAny_mono one (fun r s' ⟨v, e, hq⟩ => by subst e; ksp_lk; exact hq) fun _ _ e => e
/-- an int on the right -/
theorem bin_int {op : Operator} {i : Int} {t : Tok} {Q : Value → Shared → Prop} (X : K.In s.heap) (I : PySem.W.InstAt s.heap x ox C od) (O : OpC K C op.info.2)
    (hs : findIn K (.ref C) (PySem.dunder op.info.2) = some (some (.ref f))) (hf : isFn K (.ref f) = true)
    (h : wpAny (model P w) A (call (.ref f) [.ref x, .int i t]) (PySem.W.CmpBack Q) E s) : wpAny (model P w) A (binaryOp op (.ref x) (.int i t)) Q E s := by
  obtain ⟨cd, rest, hcd, hm⟩ := cls_first O.sf
  obtain ⟨rc, hr, hp⟩ := O.rc
  obtain ⟨fo, h1⟩ := O.fo
  obtain ⟨ro, h2⟩ := O.ro
  rcases hi : op.info with ⟨sym, nm⟩
  rw [hi] at hs hr h1 h2
  have one := PySem.W.ksp_try X I hs hf h
  obtain ⟨hh, g, d, tt, os⟩ := s
  have L1 : PySem.W.Looks (model P w) hh (typeOf (.ref x)) (.ref C) := I.type
  have L2 : PySem.W.Looks (model P w) hh (typeOf (.int i t)) (.type "int") := PySem.W.Looks.of_pure rfl
  have L3 : PySem.W.Looks (model P w) hh (fillsNumberSlot (.ref C) nm) true := PySem.W.fills_K X hcd hm hs
  have L4 := PySem.W.ksp_fillsT (M := model P w) X h1 h2
  have L5 : PySem.W.Looks (model P w) hh (isSubtype (.type "int") (.ref C)) false := PySem.W.looks_subIn X O.si
  have L6 : PySem.W.Looks (model P w) hh (numberSlotInPython (.ref C) nm) true := PySem.W.ksp_inPy X hs hr hp
  have L7 : PySem.W.Looks (model P w) hh (numberSlotInPython (.type "int") nm) false := PySem.W.Looks.of_pure rfl
  have L8 : PySem.W.Looks (model P w) hh (typeLookup (.type "int") (dunderR nm)) ro := PySem.W.looks_findIn X h2
  generalize ((fo.isSome && !isSeqSlot fo) || (ro.isSome && !isSeqSlot ro)) = right at L4
  have hne : (Value.ref C == Value.type "int") = false := Bool.eq_false_iff.mpr fun q => by cases beq_iff_eq.mp q
  simp only [binaryOp, hi]
  refine wpAny_holding (wpAny_bind ?_)
  unfold binaryOp1
  refine wpAny_bind (L1.at ?_)
  refine wpAny_bind (L2.at ?_)
  refine wpAny_bind (L3.at ?_)
  simp only [hne, Bool.false_eq_true, if_false]
  cases right <;> (ksp_lk; exact wpAny_mono one (fun r s' ⟨v, e, hq⟩ => by subst e; ksp_lk; exact hq) fun _ _ e => e)
/-- an int on the left: the int declines -/
theorem bin_rint {op : Operator} {i : Int} {t : Tok} {id : String} {Q : Value → Shared → Prop} (X : K.In s.heap) (I : PySem.W.InstAt s.heap x ox C od) (O : OpC K C op.info.2) (sl : Slot "int" (PySem.dunder op.info.2) id)
    (dec : ∀ (Q : Value → Shared → Prop) , Q .notImplemented s → wpAny (model P w) A (call (.builtin id) [.int i t, .ref x]) Q E s)
    (hs : findIn K (.ref C) (dunderR op.info.2) = some (some (.ref f))) (hf : isFn K (.ref f) = true) (hfill : PySem.W.Looks (model P w) s.heap (fillsNumberSlot (.ref C) op.info.2) true) (hfi : fillsNumberSlot (.type "int") op.info.2 = pure true)
    (h : wpAny (model P w) A (call (.ref f) [.ref x, .int i t]) (PySem.W.CmpBack Q) E s) : wpAny (model P w) A (binaryOp op (.int i t) (.ref x)) Q E s := by
  rcases hi : op.info with ⟨sym, nm⟩
  rw [hi] at hs hfill hfi sl
  have one := PySem.W.ksp_try X I hs hf h
  have two : wpAny (model P w) A (tryMethod (.int i t) (PySem.dunder nm) (.ref x)) (fun r s' => r = none ∧ s' = s) E s := wpAny_tryMethod_declines (typeIs_int _ _ _) sl (dec _ ⟨rfl, rfl, rfl⟩)
  have L1 : PySem.W.Looks (model P w) s.heap (typeOf (.ref x)) (.ref C) := I.type
  have L5 : PySem.W.Looks (model P w) s.heap (isSubtype (.ref C) (.type "int")) false := PySem.W.looks_subIn X O.is
  have hne : (Value.type "int" == Value.ref C) = false := Bool.eq_false_iff.mpr fun q => by cases beq_iff_eq.mp q
  simp only [binaryOp, hi]
  refine wpAny_holding (wpAny_bind ?_)
  unfold binaryOp1
  refine wpAny_bind (wpAny_pure ?_)
  refine wpAny_bind (L1.here ?_)
  refine wpAny_bind (wpAny_of_eq hfi ?_)
  simp only [hne, Bool.false_eq_true, if_false]
  refine wpAny_bind (hfill.here ?_)
  simp only [Bool.and_self, if_true]
  refine wpAny_bind (L5.here ?_)
  have hpy : numberSlotInPython (.type "int") nm = pure false := rfl
  simp only [Bool.false_eq_true, if_false, pure_bind, Bool.not_false, Bool.and_self, if_true, hpy]
  refine wpAny_bind (wpAny_mono two (fun r s' ⟨e, e2⟩ => ?_) fun _ _ e => e)
  subst e e2
  refine wpAny_bind (wpAny_mono one (fun r s' ⟨v, e, hq⟩ => ?_) fun _ _ e => e)
  subst e
  exact wpAny_bind (wpAny_rule (wpAny_pure (wpAny_pure hq)))
end
/-! ### an int declines an instance -/
section
variable {P : Program} {w : World} {A : Around} {E : Value → Shared → Prop} {s : Shared} {K : PySem.W.Frag} {x C dx f : Addr} {ox : Obj} {od : Option Obj} {i : Int} {t : Tok}
/-- the int's own method declines -/
def Decl (P : Program) (w : World) (A : Around) (E : Value → Shared → Prop) (s : Shared) (id : String) (a b : Value) : Prop := ∀ Q : Value → Shared → Prop, Q .notImplemented s → wpAny (model P w) A (call (.builtin id) [a, b]) Q E s
theorem met_add (i : Int) (t : Tok) (x C dx : Addr) : Meets (Builtin.«int.__add__» ⟨[.int i t, .ref x], []⟩) (fun _ R s => s.heap.get? x = some (PySem.W.instObj C dx) ∧ R (.ok (.ret .notImplemented)) s) :=
  .of_wp fun P w A R s h => by
    obtain ⟨hp, g, d, tk, os⟩ := s
    obtain ⟨hl, h⟩ := h
    wp_walk using wpAny_loadPart' hl, wpAny_load hl
    exact ⟨_, rfl, h⟩
theorem dec_add (hx : s.heap.get? x = some (PySem.W.instObj C dx)) : Decl P w A E s "int.__add__" (.int i t) (.ref x) := fun Q q =>
  call_meets PySem.F.slot_int_add (typeIs_int s i t) PySem.F.entry_int_add (PySem.F.args_int_add_2 _ _) (met_add i t x C dx) ⟨hx, q⟩
theorem met_sub (i : Int) (t : Tok) (x C dx : Addr) : Meets (Builtin.«int.__sub__» ⟨[.int i t, .ref x], []⟩) (fun _ R s => s.heap.get? x = some (PySem.W.instObj C dx) ∧ R (.ok (.ret .notImplemented)) s) :=
  .of_wp fun P w A R s h => by
    obtain ⟨hp, g, d, tk, os⟩ := s
    obtain ⟨hl, h⟩ := h
    wp_walk using wpAny_loadPart' hl, wpAny_load hl
    exact ⟨_, rfl, h⟩
theorem dec_sub (hx : s.heap.get? x = some (PySem.W.instObj C dx)) : Decl P w A E s "int.__sub__" (.int i t) (.ref x) := fun Q q =>
  call_meets PySem.F.slot_int_sub (typeIs_int s i t) PySem.F.entry_int_sub (PySem.F.args_int_sub_2 _ _) (met_sub i t x C dx) ⟨hx, q⟩
theorem met_mul (i : Int) (t : Tok) (x C dx : Addr) : Meets (Builtin.«int.__mul__» ⟨[.int i t, .ref x], []⟩) (fun _ R s => s.heap.get? x = some (PySem.W.instObj C dx) ∧ R (.ok (.ret .notImplemented)) s) :=
  .of_wp fun P w A R s h => by
    obtain ⟨hp, g, d, tk, os⟩ := s
    obtain ⟨hl, h⟩ := h
    wp_walk using wpAny_loadPart' hl, wpAny_load hl
    exact ⟨_, rfl, h⟩
theorem dec_mul (hx : s.heap.get? x = some (PySem.W.instObj C dx)) : Decl P w A E s "int.__mul__" (.int i t) (.ref x) := fun Q q =>
  call_meets PySem.F.slot_int_mul (typeIs_int s i t) PySem.F.entry_int_mul (PySem.F.args_int_mul_2 _ _) (met_mul i t x C dx) ⟨hx, q⟩
theorem met_floordiv (i : Int) (t : Tok) (x C dx : Addr) : Meets (Builtin.«int.__floordiv__» ⟨[.int i t, .ref x], []⟩) (fun _ R s => s.heap.get? x = some (PySem.W.instObj C dx) ∧ R (.ok (.ret .notImplemented)) s) :=
  .of_wp fun P w A R s h => by
    obtain ⟨hp, g, d, tk, os⟩ := s
    obtain ⟨hl, h⟩ := h
    wp_walk using wpAny_loadPart' hl, wpAny_load hl
    exact ⟨_, rfl, h⟩
theorem dec_floordiv (hx : s.heap.get? x = some (PySem.W.instObj C dx)) : Decl P w A E s "int.__floordiv__" (.int i t) (.ref x) := fun Q q =>
  call_meets PySem.F.slot_int_floordiv (typeIs_int s i t) PySem.F.entry_int_floordiv (PySem.F.args_int_floordiv_2 _ _) (met_floordiv i t x C dx) ⟨hx, q⟩
theorem met_eq (i : Int) (t : Tok) (x C dx : Addr) : Meets (Builtin.«int.__eq__» ⟨[.int i t, .ref x], []⟩) (fun _ R s => s.heap.get? x = some (PySem.W.instObj C dx) ∧ R (.ok (.ret .notImplemented)) s) :=
  .of_wp fun P w A R s h => by
    obtain ⟨hp, g, d, tk, os⟩ := s
    obtain ⟨hl, h⟩ := h
    wp_walk using wpAny_loadPart' hl, wpAny_load hl
    exact ⟨_, rfl, h⟩
theorem dec_eq (hx : s.heap.get? x = some (PySem.W.instObj C dx)) : Decl P w A E s "int.__eq__" (.int i t) (.ref x) := fun Q q =>
  call_meets PySem.F.slot_int_eq (typeIs_int s i t) PySem.F.entry_int_eq (PySem.F.args_int_eq_2 _ _) (met_eq i t x C dx) ⟨hx, q⟩
theorem met_ne (i : Int) (t : Tok) (x C dx : Addr) : Meets (Builtin.«int.__ne__» ⟨[.int i t, .ref x], []⟩) (fun _ R s => s.heap.get? x = some (PySem.W.instObj C dx) ∧ R (.ok (.ret .notImplemented)) s) :=
  .of_wp fun P w A R s h => by
    obtain ⟨hp, g, d, tk, os⟩ := s
    obtain ⟨hl, h⟩ := h
    wp_walk using wpAny_loadPart' hl, wpAny_load hl
    exact ⟨_, rfl, h⟩
theorem dec_ne (hx : s.heap.get? x = some (PySem.W.instObj C dx)) : Decl P w A E s "int.__ne__" (.int i t) (.ref x) := fun Q q =>
  call_meets PySem.F.slot_int_ne (typeIs_int s i t) PySem.F.entry_int_ne (PySem.F.args_int_ne_2 _ _) (met_ne i t x C dx) ⟨hx, q⟩
theorem met_lt (i : Int) (t : Tok) (x C dx : Addr) : Meets (Builtin.«int.__lt__» ⟨[.int i t, .ref x], []⟩) (fun _ R s => s.heap.get? x = some (PySem.W.instObj C dx) ∧ R (.ok (.ret .notImplemented)) s) :=
  .of_wp fun P w A R s h => by
    obtain ⟨hp, g, d, tk, os⟩ := s
    obtain ⟨hl, h⟩ := h
    wp_walk using wpAny_loadPart' hl, wpAny_load hl
    exact ⟨_, rfl, h⟩
theorem dec_lt (hx : s.heap.get? x = some (PySem.W.instObj C dx)) : Decl P w A E s "int.__lt__" (.int i t) (.ref x) := fun Q q =>
  call_meets PySem.F.slot_int_lt (typeIs_int s i t) PySem.F.entry_int_lt (PySem.F.args_int_lt_2 _ _) (met_lt i t x C dx) ⟨hx, q⟩
theorem met_le (i : Int) (t : Tok) (x C dx : Addr) : Meets (Builtin.«int.__le__» ⟨[.int i t, .ref x], []⟩) (fun _ R s => s.heap.get? x = some (PySem.W.instObj C dx) ∧ R (.ok (.ret .notImplemented)) s) :=
  .of_wp fun P w A R s h => by
    obtain ⟨hp, g, d, tk, os⟩ := s
    obtain ⟨hl, h⟩ := h
    wp_walk using wpAny_loadPart' hl, wpAny_load hl
    exact ⟨_, rfl, h⟩
theorem dec_le (hx : s.heap.get? x = some (PySem.W.instObj C dx)) : Decl P w A E s "int.__le__" (.int i t) (.ref x) := fun Q q =>
  call_meets PySem.F.slot_int_le (typeIs_int s i t) PySem.F.entry_int_le (PySem.F.args_int_le_2 _ _) (met_le i t x C dx) ⟨hx, q⟩
theorem met_gt (i : Int) (t : Tok) (x C dx : Addr) : Meets (Builtin.«int.__gt__» ⟨[.int i t, .ref x], []⟩) (fun _ R s => s.heap.get? x = some (PySem.W.instObj C dx) ∧ R (.ok (.ret .notImplemented)) s) :=
  .of_wp fun P w A R s h => by
    obtain ⟨hp, g, d, tk, os⟩ := s
    obtain ⟨hl, h⟩ := h
    wp_walk using wpAny_loadPart' hl, wpAny_load hl
    exact ⟨_, rfl, h⟩
theorem dec_gt (hx : s.heap.get? x = some (PySem.W.instObj C dx)) : Decl P w A E s "int.__gt__" (.int i t) (.ref x) := fun Q q =>
  call_meets PySem.F.slot_int_gt (typeIs_int s i t) PySem.F.entry_int_gt (PySem.F.args_int_gt_2 _ _) (met_gt i t x C dx) ⟨hx, q⟩
theorem met_ge (i : Int) (t : Tok) (x C dx : Addr) : Meets (Builtin.«int.__ge__» ⟨[.int i t, .ref x], []⟩) (fun _ R s => s.heap.get? x = some (PySem.W.instObj C dx) ∧ R (.ok (.ret .notImplemented)) s) :=
  .of_wp fun P w A R s h => by
    obtain ⟨hp, g, d, tk, os⟩ := s
    obtain ⟨hl, h⟩ := h
    wp_walk using wpAny_loadPart' hl, wpAny_load hl
    exact ⟨_, rfl, h⟩
theorem dec_ge (hx : s.heap.get? x = some (PySem.W.instObj C dx)) : Decl P w A E s "int.__ge__" (.int i t) (.ref x) := fun Q q =>
  call_meets PySem.F.slot_int_ge (typeIs_int s i t) PySem.F.entry_int_ge (PySem.F.args_int_ge_2 _ _) (met_ge i t x C dx) ⟨hx, q⟩
end
/-! ### comparisons -/
/-- what a comparison of the class at C asks -/
structure CmpC (K : PySem.W.Frag) (C : Addr) : Prop where
  si : subIn K (.type "int") (.ref C) = some false
  is : subIn K (.ref C) (.type "int") = some false
section
variable {P : Program} {w : World} {A : Around} {E : Value → Shared → Prop} {s : Shared} {K : PySem.W.Frag} {x y C dx f : Addr} {ox : Obj} {od : Option Obj} {i : Int} {t : Tok} {b : Value}
/-- the right side: an int, or of the same class -/
def Rgt (P : Program) (w : World) (s : Shared) (C : Addr) (b : Value) : Prop := (∃ i t, b = .int i t) ∨ PySem.W.Looks (model P w) s.heap (typeOf b) (.ref C)
theorem try_own {name : Str} {Q : Option Value → Shared → Prop} (X : K.In s.heap) (I : PySem.W.InstAt s.heap x ox C od) (hs : findIn K (.ref C) name = some (some (.ref f))) (hf : isFn K (.ref f) = true)
    (h : wpAny (model P w) A (call (.ref f) [.ref x, b]) (PySem.W.CmpBack fun v s' => Q (some v) s') E s) : wpAny (model P w) A (tryCompare (.ref x) name b) Q E s := by
  unfold tryCompare
  refine wpAny_bind (PySem.W.ifBound_K X I hs hf (wpAny_mono h (fun v s' hv => ?_) fun _ _ e => e))
  cases v <;> first | exact hv.elim | exact wpAny_pure hv
theorem bound_blt {name : Str} {id : String} {args : List Value} {Q : Option Value → Shared → Prop} (X : K.In s.heap) (I : PySem.W.InstAt s.heap x ox C od) (hs : findIn K (.ref C) name = some (some (.builtin id)))
    (hb : ∀ self, bindSpecial (.builtin id) self = pure (.builtin id, [self])) (h : wpAny (model P w) A (call (.builtin id) (.ref x :: args)) (fun v => Q (some v)) E s) : wpAny (model P w) A (callSpecialIfBound? (.ref x) name args) Q E s := by
  have fin : wpAny (model P w) A (call (.builtin id) ([.ref x] ++ args) >>= fun v => pure (some v)) Q E s := wpAny_bind (wpAny_mono h (fun v s' q => wpAny_pure q) fun _ _ q => q)
  simp only [callSpecialIfBound?, bindSpecialIfBound?, specialOf]
  refine wpAny_holding (wpAny_bind (wpAny_bind ?_))
  refine wpAny_bind (I.type.here ?_)
  refine (PySem.W.looks_findIn X hs).here ?_
  refine wpAny_bind (wpAny_askSetting (wpAny_ite ?_))
  split
  · rw [hb]; exact wpAny_bind (wpAny_pure (wpAny_pure fin))
  · rw [hb]; exact wpAny_tryCatch (wpAny_bind (wpAny_pure (wpAny_pure fin)))
/-- != by object's own, which asks == -/
theorem try_ne {Q : Option Value → Shared → Prop} (hu : A.in1.units < cLine) (X : K.In s.heap) (I : PySem.W.InstAt s.heap x ox C od) (hn : findIn K (.ref C) "__ne__" = some (some (.builtin "object.__ne__"))) (hm : PySem.W.mroIn K C (.type "object") = some true)
    (hs : findIn K (.ref C) "__eq__" = some (some (.ref f))) (hf : isFn K (.ref f) = true)
    (h : wpAny (model P w) A.in1 (call (.ref f) [.ref x, b]) (fun v s' => ∃ c, v = .bool c ∧ Q (some (.bool (!c))) s') E s) : wpAny (model P w) A (tryCompare (.ref x) "__ne__" b) Q E s := by
  unfold tryCompare
  refine wpAny_bind (bound_blt X I hn PySem.F.slot_object_ne.bind ?_)
  refine wpAny_call (codeAny_call_builtin PySem.F.slot_object_ne.plain PySem.F.entry_object_ne (PySem.W.check_slot (i := "object.__ne__") (owner := "object") (n := "__ne__") (by decide +kernel) (by decide +kernel) (I.type.andThen (PySem.W.looks_mroIn X hm)) (PySem.F.args_object_ne_2 _ _) ?_))
  unfold Builtin.«object.__ne__»
  refine wpAny_bind (m := slotArgs "__ne__" 1 _) (wpAny_pure ?_)
  refine wpAny_bind (m := cRoomFor _ _) (wpAny_cRoomFor hu ?_)
  refine wpAny_bind (m := callSpecialIfBound? (.ref x) (Str.ofString "__eq__") _) (PySem.W.ifBound_K X I hs hf (wpAny_mono h (fun v s' ⟨c, e, q⟩ => ?_) fun _ _ e => e))
  subst e
  refine wpAny_bind (m := truthy (.bool c)) (wpAny_pure ?_)
  exact wpAny_pure (wpAny_pure q)
theorem cmp_left {op : CmpOp} {Q : Value → Shared → Prop} (hop : ∀ a b, compareOp op a b = richCompare op a b) (hu : A.units < cLine) (X : K.In s.heap) (I : PySem.W.InstAt s.heap x ox C od) (O : CmpC K C) (hb : Rgt P w s C b)
    (h : wpAny (model P w) A (tryCompare (.ref x) (cmpInfo op).2.1 b) (fun r s' => ∃ v, r = some v ∧ Q v s') E s) : wpAny (model P w) A (compareOp op (.ref x) b) Q E s := by
  rw [hop]
  unfold richCompare
  simp only [oneThing_ref]
  rcases hi : cmpInfo op with ⟨sym, nf, nr⟩
  rw [hi] at h
  refine wpAny_holding ?_
  refine wpAny_bind (wpAny_cRoomFor hu ?_)
  dsimp only at h ⊢
  refine wpAny_bind (I.type.here ?_)
  rcases hb with ⟨i, t, rfl⟩ | hb
  · refine wpAny_bind (wpAny_pure ?_)
    rw [show (Value.ref C != Value.type "int") = true from by simp]
    simp only [if_true]
    refine wpAny_bind ((PySem.W.looks_subIn X O.si).here ?_)
    simp only [Bool.false_eq_true, if_false]
    exact wpAny_bind (wpAny_mono h (fun r s' ⟨v, e, q⟩ => by subst e; exact wpAny_pure q) fun _ _ e => e)
  · refine wpAny_bind (hb.here ?_)
    rw [show (Value.ref C != Value.ref C) = false from by simp]
    simp only [Bool.false_eq_true, if_false]
    refine wpAny_bind (wpAny_pure ?_)
    simp only [Bool.false_eq_true, if_false]
    exact wpAny_bind (wpAny_mono h (fun r s' ⟨v, e, q⟩ => by subst e; exact wpAny_pure q) fun _ _ e => e)
theorem cmp_rint {op : CmpOp} {id : String} {Q : Value → Shared → Prop} (hop : ∀ a b, compareOp op a b = richCompare op a b) (hu : A.units < cLine) (X : K.In s.heap) (I : PySem.W.InstAt s.heap x ox C od) (O : CmpC K C) (sl : Slot "int" (cmpInfo op).2.1 id) (dec : Decl P w A E s id (.int i t) (.ref x))
    (h : wpAny (model P w) A (tryCompare (.ref x) (cmpInfo op).2.2 (.int i t)) (fun r s' => ∃ v, r = some v ∧ Q v s') E s) : wpAny (model P w) A (compareOp op (.int i t) (.ref x)) Q E s := by
  rw [hop]
  unfold richCompare
  rcases hi : cmpInfo op with ⟨sym, nf, nr⟩
  rw [hi] at h sl
  have two : wpAny (model P w) A (tryCompare (.int i t) nf (.ref x)) (fun r s' => r = none ∧ s' = s) E s := wpAny_tryCompare_declines (typeIs_int _ _ _) sl (dec _ ⟨rfl, rfl, rfl⟩)
  rw [(typeIs_int s i t).oneThing_none]
  refine wpAny_holding ?_
  refine wpAny_bind (wpAny_cRoomFor hu ?_)
  dsimp only at h ⊢
  refine wpAny_bind (wpAny_pure ?_)
  refine wpAny_bind (I.type.here ?_)
  rw [show (Value.type "int" != Value.ref C) = true from by simp]
  simp only [if_true]
  refine wpAny_bind ((PySem.W.looks_subIn X O.is).here ?_)
  simp only [Bool.false_eq_true, if_false, Bool.not_false, if_true]
  refine wpAny_bind (wpAny_mono two (fun r s' ⟨e, e2⟩ => ?_) fun _ _ e => e)
  subst e e2
  exact wpAny_bind (wpAny_mono h (fun r s' ⟨v, e, q⟩ => by subst e; exact wpAny_pure q) fun _ _ e => e)
end
/-! ### in the hand layer -/
/-- an int, or an instance of the class at C -/
def RgtV (C : Addr) (y : V) (H : Hp) : Prop := (∃ i, y = .int i) ∨ ∃ b dx fs, y = .ref b ∧ H b = some (.ins C dx fs)
/-- x op y, x of the class at C -/
def tSp2 (C : Addr) (sp : Sp) (E : St → XK) (R : V → Prop) (ta tb : TE) : TE := fun σ H Q => ta σ H fun x H1 => tb σ H1 fun y H2 => ∃ a dx fs, x = .ref a ∧ H2 a = some (.ins C dx fs) ∧ RgtV C y H2 ∧ sp [.ref a, y] H2 (fun v H3 => R v ∧ Q v H3) (E σ)
/-- i op y, i an int, y of the class at C -/
def tSp2R (C : Addr) (sp : Sp) (E : St → XK) (R : V → Prop) (ta tb : TE) : TE := fun σ H Q => ta σ H fun x H1 => tb σ H1 fun y H2 => ∃ i a dx fs, x = .int i ∧ y = .ref a ∧ H2 a = some (.ins C dx fs) ∧ sp [.ref a, .int i] H2 (fun v H3 => R v ∧ Q v H3) (E σ)
def tNe2 (C : Addr) (sp : Sp) (E : St → XK) (ta tb : TE) : TE := fun σ H Q => ta σ H fun x H1 => tb σ H1 fun y H2 => ∃ a dx fs, x = .ref a ∧ H2 a = some (.ins C dx fs) ∧ RgtV C y H2 ∧ sp [.ref a, y] H2 (fun v H3 => ∃ c, v = .bl c ∧ Q (.bl (!c)) H3) (E σ)
def tNe2R (C : Addr) (sp : Sp) (E : St → XK) (ta tb : TE) : TE := fun σ H Q => ta σ H fun x H1 => tb σ H1 fun y H2 => ∃ i a dx fs, x = .int i ∧ y = .ref a ∧ H2 a = some (.ins C dx fs) ∧ sp [.ref a, .int i] H2 (fun v H3 => ∃ c, v = .bl c ∧ Q (.bl (!c)) H3) (E σ)
def tSp1 (C : Addr) (sp : Sp) (E : St → XK) (ta : TE) : TE := fun σ H Q => ta σ H fun x H1 => ∃ a dx fs, x = .ref a ∧ H1 a = some (.ins C dx fs) ∧ sp [.ref a] H1 Q (E σ)
theorem back_rel {P : Value → Shared → Prop} {z : V} {v : Value} {s' : Shared} (r : RelV z v) (h : P v s') : PySem.W.CmpBack P v s' := by
  cases z with
  | non => cases (show v = Value.none from r); exact h
  | bl b => cases (show v = Value.bool b from r); exact h
  | int i => obtain ⟨t, e⟩ := (show ∃ t, v = Value.int i t from r); cases e; exact h
  | str x => obtain ⟨t, e⟩ := (show ∃ t, v = Value.str x t from r); cases e; exact h
  | byt b => obtain ⟨t, e⟩ := (show ∃ t, v = Value.bytes b t from r); cases e; exact h
  | flt b => obtain ⟨t, e⟩ := (show ∃ t, v = Value.float b t from r); cases e; exact h
  | ref a => cases (show v = Value.ref a from r); exact h
  | ty n => cases (show v = Value.type n from r); exact h
section
variable {X : Cx} {CX : CXT} {k : Nat} {C : Addr} {ps : List Str} {sp : Sp} {E : St → XK} {R : V → Prop} {l r : Expr} {ta tb : TE} {pos : Pos} {m : Str}
theorem rgt_of {pins : List (Addr × Obj)} {σ : St} {H : Hp} {s : Shared} {y : V} {u : Value} (I : Inv X pins σ H s) (ry : RelV y u) (h : RgtV C y H) : Rgt X.prog X.w s C u := by
  rcases h with ⟨i, rfl⟩ | ⟨b, dx, fs, rfl, hb⟩
  · obtain ⟨t, rfl⟩ := ry
    exact .inl ⟨i, t, rfl⟩
  · obtain rfl : u = Value.ref b := ry
    obtain ⟨mA, O, _⟩ := ins_get I.hok hb
    obtain ⟨od, J, _⟩ := O.look
    exact .inr J.type
theorem pe_bin2 {op : Operator} (D : DefM X.prog X.w X.K X.mg X.base CX k C (PySem.dunder op.info.2) ps sp) (O : OpC X.K C op.info.2) (hr : Room k X.A) (hx : ∀ σ, PassesAt CX X σ (E σ)) (hl : PE X l ta) (hrr : PE X r tb) : PE X (.BinOp l op r pos) (tSp2 C sp E R ta tb) := by
  obtain ⟨f, fd, hlk, hm, hb, F⟩ := D.ex
  refine ⟨fun pins s σ H Q I h => wpAny_BinOp ?_⟩
  refine thn (hl.run pins s σ H _ I h) fun iv s1 ⟨x, H1, I1, rx, q1⟩ => thn (hrr.run pins s1 σ H1 _ I1 q1) fun u s2 ⟨y, H2, I2, ry, a, dx, fs, ex, ea, hy, q2⟩ => ?_
  subst ex
  obtain rfl : iv = Value.ref a := rx
  obtain ⟨mA, O1, _⟩ := ins_get I2.hok ea
  obtain ⟨od, J, _⟩ := O1.look
  have run := run_fnS (us := [.ref a, u]) (vs := [.ref a, y]) F hr hb (hx σ) I2 (.cons rfl (.cons ry .nil)) q2
  have run2 : wpAny (model X.prog X.w) X.A (call (.ref f) [.ref a, u]) (PySem.W.CmpBack (EP X pins σ Q)) X.xe s2 := wpAny_mono run (fun v s3 ⟨z, H3, I3, rz, _, q3⟩ => back_rel rz ⟨z, H3, I3, rz, q3⟩) fun _ _ e => e
  rcases rgt_of I2 ry hy with ⟨i, t, rfl⟩ | hb2
  · exact bin_int I2.kIn J O hm.at_ hm.fn run2
  · exact bin_same I2.kIn J hb2 O.sf hm.at_ hm.fn run2
/-- the int's own method for op, and that it declines -/
structure IntD (op : Operator) (id : String) : Prop where
  sl : Slot "int" (PySem.dunder op.info.2) id
  fl : fillsNumberSlot (.type "int") op.info.2 = pure true
  de : ∀ {P : Program} {w : World} {A : Around} {E : Value → Shared → Prop} {s : Shared} {x C dx : Addr} {i : Int} {t : Tok}, s.heap.get? x = some (PySem.W.instObj C dx) → Decl P w A E s id (.int i t) (.ref x)
theorem int_add : IntD .Add "int.__add__" := ⟨PySem.F.slot_int_add, PySem.F.fills_int_add, dec_add⟩
theorem int_sub : IntD .Sub "int.__sub__" := ⟨PySem.F.slot_int_sub, PySem.F.fills_int_sub, dec_sub⟩
theorem int_mul : IntD .Mult "int.__mul__" := ⟨PySem.F.slot_int_mul, PySem.F.fills_int_mul, dec_mul⟩
theorem int_fdiv : IntD .FloorDiv "int.__floordiv__" := ⟨PySem.F.slot_int_floordiv, PySem.F.fills_int_floordiv, dec_floordiv⟩
/-- the class at C has the operator itself, too -/
def OpF (K : PySem.W.Frag) (C : Addr) (nm : String) : Prop := ∃ f : Addr, findIn K (.ref C) (PySem.dunder nm) = some (some (.ref f))
theorem pe_bin2R {op : Operator} {id : String} (D : DefM X.prog X.w X.K X.mg X.base CX k C (dunderR op.info.2) ps sp) (O : OpC X.K C op.info.2) (Of : OpF X.K C op.info.2) (N : IntD op id) (hr : Room k X.A) (hx : ∀ σ, PassesAt CX X σ (E σ)) (hl : PE X l ta) (hrr : PE X r tb) : PE X (.BinOp l op r pos) (tSp2R C sp E R ta tb) := by
  obtain ⟨f, fd, hlk, hm, hb, F⟩ := D.ex
  obtain ⟨g, hg⟩ := Of
  obtain ⟨cd, rest, hcd, hmm⟩ := cls_first O.sf
  refine ⟨fun pins s σ H Q I h => wpAny_BinOp ?_⟩
  refine thn (hl.run pins s σ H _ I h) fun iv s1 ⟨x, H1, I1, rx, q1⟩ => thn (hrr.run pins s1 σ H1 _ I1 q1) fun u s2 ⟨y, H2, I2, ry, i, a, dx, fs, ex, ey, ea, q2⟩ => ?_
  subst ex ey
  obtain ⟨t, rfl⟩ := rx
  obtain rfl : u = Value.ref a := ry
  obtain ⟨mA, O1, _⟩ := ins_get I2.hok ea
  obtain ⟨od, J, _⟩ := O1.look
  have run := run_fnS (us := [.ref a, .int i t]) (vs := [.ref a, .int i]) F hr hb (hx σ) I2 (.cons rfl (.cons ⟨t, rfl⟩ .nil)) q2
  have run2 : wpAny (model X.prog X.w) X.A (call (.ref f) [.ref a, .int i t]) (PySem.W.CmpBack (EP X pins σ Q)) X.xe s2 := wpAny_mono run (fun v s3 ⟨z, H3, I3, rz, _, q3⟩ => back_rel rz ⟨z, H3, I3, rz, q3⟩) fun _ _ e => e
  exact bin_rint I2.kIn J O N.sl (N.de O1.obj) hm.at_ hm.fn (PySem.W.fills_K I2.kIn hcd hmm hg) N.fl run2
theorem pc_cmp2 {op : CmpOp} (D : DefM X.prog X.w X.K X.mg X.base CX k C (cmpInfo op).2.1 ps sp) (hop : ∀ a b, compareOp op a b = richCompare op a b) (O : CmpC X.K C) (hr : Room k X.A) (hx : ∀ σ, PassesAt CX X σ (E σ)) (hl : PE X l ta) (hrr : PE X r tb) : PC X op l r (tSp2 C sp E R ta tb) := by
  obtain ⟨f, fd, hlk, hm, hb, F⟩ := D.ex
  refine ⟨fun pins s σ H Q I h => ?_⟩
  refine thn (hl.run pins s σ H _ I h) fun iv s1 ⟨x, H1, I1, rx, q1⟩ => thn (hrr.run pins s1 σ H1 _ I1 q1) fun u s2 ⟨y, H2, I2, ry, a, dx, fs, ex, ea, hy, q2⟩ => ?_
  subst ex
  obtain rfl : iv = Value.ref a := rx
  obtain ⟨mA, O1, _⟩ := ins_get I2.hok ea
  obtain ⟨od, J, _⟩ := O1.look
  have run := run_fnS (us := [.ref a, u]) (vs := [.ref a, y]) F hr hb (hx σ) I2 (.cons rfl (.cons ry .nil)) q2
  exact cmp_left hop (Nat.lt_of_le_of_lt (Nat.le_add_right _ 64) hr.units) I2.kIn J O (rgt_of I2 ry hy) (try_own I2.kIn J hm.at_ hm.fn (wpAny_mono run (fun v s3 ⟨z, H3, I3, rz, _, q3⟩ => back_rel rz ⟨v, rfl, z, H3, I3, rz, q3⟩) fun _ _ e => e))
structure IntC (op : CmpOp) (id : String) : Prop where
  sl : Slot "int" (cmpInfo op).2.1 id
  hop : ∀ a b, compareOp op a b = richCompare op a b
  de : ∀ {P : Program} {w : World} {A : Around} {E : Value → Shared → Prop} {s : Shared} {x C dx : Addr} {i : Int} {t : Tok}, s.heap.get? x = some (PySem.W.instObj C dx) → Decl P w A E s id (.int i t) (.ref x)
theorem int_eq : IntC .Eq "int.__eq__" := ⟨PySem.F.slot_int_eq, fun _ _ => rfl, dec_eq⟩
theorem int_ne : IntC .NotEq "int.__ne__" := ⟨PySem.F.slot_int_ne, fun _ _ => rfl, dec_ne⟩
theorem int_lt : IntC .Lt "int.__lt__" := ⟨PySem.F.slot_int_lt, fun _ _ => rfl, dec_lt⟩
theorem int_le : IntC .LtE "int.__le__" := ⟨PySem.F.slot_int_le, fun _ _ => rfl, dec_le⟩
theorem int_gt : IntC .Gt "int.__gt__" := ⟨PySem.F.slot_int_gt, fun _ _ => rfl, dec_gt⟩
theorem int_ge : IntC .GtE "int.__ge__" := ⟨PySem.F.slot_int_ge, fun _ _ => rfl, dec_ge⟩
theorem pc_cmp2R {op : CmpOp} {id : String} (D : DefM X.prog X.w X.K X.mg X.base CX k C (cmpInfo op).2.2 ps sp) (N : IntC op id) (O : CmpC X.K C) (hr : Room k X.A) (hx : ∀ σ, PassesAt CX X σ (E σ)) (hl : PE X l ta) (hrr : PE X r tb) : PC X op l r (tSp2R C sp E R ta tb) := by
  obtain ⟨f, fd, hlk, hm, hb, F⟩ := D.ex
  refine ⟨fun pins s σ H Q I h => ?_⟩
  refine thn (hl.run pins s σ H _ I h) fun iv s1 ⟨x, H1, I1, rx, q1⟩ => thn (hrr.run pins s1 σ H1 _ I1 q1) fun u s2 ⟨y, H2, I2, ry, i, a, dx, fs, ex, ey, ea, q2⟩ => ?_
  subst ex ey
  obtain ⟨t, rfl⟩ := rx
  obtain rfl : u = Value.ref a := ry
  obtain ⟨mA, O1, _⟩ := ins_get I2.hok ea
  obtain ⟨od, J, _⟩ := O1.look
  have run := run_fnS (us := [.ref a, .int i t]) (vs := [.ref a, .int i]) F hr hb (hx σ) I2 (.cons rfl (.cons ⟨t, rfl⟩ .nil)) q2
  exact cmp_rint N.hop (Nat.lt_of_le_of_lt (Nat.le_add_right _ 64) hr.units) I2.kIn J O N.sl (N.de O1.obj) (try_own I2.kIn J hm.at_ hm.fn (wpAny_mono run (fun v s3 ⟨z, H3, I3, rz, _, q3⟩ => back_rel rz ⟨v, rfl, z, H3, I3, rz, q3⟩) fun _ _ e => e))
/-- what != asks of a class that has == alone -/
structure NeC (K : PySem.W.Frag) (C : Addr) : Prop where
  ne : findIn K (.ref C) "__ne__" = some (some (.builtin "object.__ne__"))
  ob : PySem.W.mroIn K C (.type "object") = some true
theorem pc_ne2 (D : DefM X.prog X.w X.K X.mg X.base CX k C "__eq__" ps sp) (O : CmpC X.K C) (N : NeC X.K C) (hr : Room (k + 1) X.A) (hx : ∀ σ, PassesAt CX X σ (E σ)) (hl : PE X l ta) (hrr : PE X r tb) : PC X .NotEq l r (tNe2 C sp E ta tb) := by
  obtain ⟨f, fd, hlk, hm, hb, F⟩ := D.ex
  refine ⟨fun pins s σ H Q I h => ?_⟩
  refine thn (hl.run pins s σ H _ I h) fun iv s1 ⟨x, H1, I1, rx, q1⟩ => thn (hrr.run pins s1 σ H1 _ I1 q1) fun u s2 ⟨y, H2, I2, ry, a, dx, fs, ex, ea, hy, q2⟩ => ?_
  subst ex
  obtain rfl : iv = Value.ref a := rx
  obtain ⟨mA, O1, _⟩ := ins_get I2.hok ea
  obtain ⟨od, J, _⟩ := O1.look
  have run := run_fnS1 (us := [.ref a, u]) (vs := [.ref a, y]) F hr hb (hx σ) I2 (.cons rfl (.cons ry .nil)) q2
  refine cmp_left (fun _ _ => rfl) (Nat.lt_of_le_of_lt (Nat.le_add_right _ 64) hr.units) I2.kIn J O (rgt_of I2 ry hy) (try_ne (Nat.lt_of_le_of_lt (Nat.le_add_right _ 64) hr.in1.units) I2.kIn J N.ne N.ob hm.at_ hm.fn (wpAny_mono run (fun v s3 ⟨z, H3, I3, rz, c, e, q3⟩ => ?_) fun _ _ e => e))
  subst e
  cases rz
  exact ⟨c, rfl, _, rfl, .bl (!c), H3, I3, rfl, q3⟩
theorem pc_ne2R (D : DefM X.prog X.w X.K X.mg X.base CX k C "__eq__" ps sp) (O : CmpC X.K C) (N : NeC X.K C) (hr : Room (k + 1) X.A) (hx : ∀ σ, PassesAt CX X σ (E σ)) (hl : PE X l ta) (hrr : PE X r tb) : PC X .NotEq l r (tNe2R C sp E ta tb) := by
  obtain ⟨f, fd, hlk, hm, hb, F⟩ := D.ex
  refine ⟨fun pins s σ H Q I h => ?_⟩
  refine thn (hl.run pins s σ H _ I h) fun iv s1 ⟨x, H1, I1, rx, q1⟩ => thn (hrr.run pins s1 σ H1 _ I1 q1) fun u s2 ⟨y, H2, I2, ry, i, a, dx, fs, ex, ey, ea, q2⟩ => ?_
  subst ex ey
  obtain ⟨t, rfl⟩ := rx
  obtain rfl : u = Value.ref a := ry
  obtain ⟨mA, O1, _⟩ := ins_get I2.hok ea
  obtain ⟨od, J, _⟩ := O1.look
  have run := run_fnS1 (us := [.ref a, .int i t]) (vs := [.ref a, .int i]) F hr hb (hx σ) I2 (.cons rfl (.cons ⟨t, rfl⟩ .nil)) q2
  refine cmp_rint int_ne.hop (Nat.lt_of_le_of_lt (Nat.le_add_right _ 64) hr.units) I2.kIn J O int_ne.sl (int_ne.de O1.obj) (try_ne (Nat.lt_of_le_of_lt (Nat.le_add_right _ 64) hr.in1.units) I2.kIn J N.ne N.ob hm.at_ hm.fn (wpAny_mono run (fun v s3 ⟨z, H3, I3, rz, c, e, q3⟩ => ?_) fun _ _ e => e))
  subst e
  cases rz
  exact ⟨c, rfl, _, rfl, .bl (!c), H3, I3, rfl, q3⟩
theorem pe_neg2 (D : DefM X.prog X.w X.K X.mg X.base CX k C "__neg__" ps sp) (hr : Room k X.A) (hx : ∀ σ, PassesAt CX X σ (E σ)) (hl : PE X l ta) : PE X (.UnaryOp .USub l pos) (tSp1 C sp E ta) := by
  obtain ⟨f, fd, hlk, hm, hb, F⟩ := D.ex
  refine ⟨fun pins s σ H Q I h => UnaryOp_ ?_⟩
  refine thn (hl.run pins s σ H _ I h) fun iv s1 ⟨x, H1, I1, rx, a, dx, fs, ex, ea, q1⟩ => ?_
  subst ex
  obtain rfl : iv = Value.ref a := rx
  obtain ⟨mA, O1, _⟩ := ins_get I1.hok ea
  unfold unaryOp
  refine wpAny_holding ?_
  refine wpAny_bind (special_own I1.kIn O1 hm (wpAny_mono (run_fnS (us := [.ref a]) (vs := [.ref a]) F hr hb (hx σ) I1 (.cons rfl .nil) q1) (fun v s' z => wpAny_pure z) fun _ _ z => z))
end
/-! ### abs, str, bool -/
/-- what such a call is of: an instance of the class at C -/
def rSp1 (C : Addr) (sp : Sp) (E : XK) (R : V → Prop) : List V → Hp → VK → Prop := fun xs H Q => ∃ a dx fs, xs = [.ref a] ∧ H a = some (.ins C dx fs) ∧ sp [.ref a] H (fun v H2 => R v ∧ Q v H2) E
section
variable {X : Cx} {CX : CXT} {k : Nat} {C : Addr} {ps : List Str} {sp : Sp} {E : XK}
theorem Room.in2 {A : Around} (r : Room (k + 1) A) : Room k A.in1.in1 := ⟨r.hd, by have := r.dp; show A.depth + 3 * k + 5 < _; omega, by have := r.un; show A.units + 1 + 1 + 16 * k + 200 < _; omega⟩
theorem run_fnS2 {pins : List (Addr × Obj)} {σ : St} {H : Hp} {s : Shared} {Q : VK} {f : Addr} {fd : FuncData} {us : List Value} {vs : List V} (F : FnOk X.prog X.w X.K X.mg X.base CX k f fd ps sp) (hr : Room (k + 1) X.A) (hb : Binds X.K fd ps []) (hx : PassesAt CX X σ E)
    (I : Inv X pins σ H s) (r : Vals vs us) (h : sp vs H Q E) : wpAny (model X.prog X.w) X.A.in1.in1 (call (.ref f) us) (EP X pins σ Q) X.xe s := by
  have hl : us.length = ps.length := by rw [← r.length]; exact F.len _ _ _ _ h
  have b := hb s us I.kIn (by rw [List.append_nil]; exact hl)
  rw [List.append_nil] at b
  refine wpAny_call (codeAny_mono (F.run X.A.in1.in1 X.stack s H ⟨us, []⟩ us vs Q E hr.in2 I.env0.in1.in1 b r h) fun r s' hq => ?_)
  cases r with
  | error e => exact hx pins H s e s' I hq
  | ok fl =>
    cases fl with
    | ret u => exact I.after hq
    | next => exact False.elim hq
    | brk => exact False.elim hq
    | cont => exact False.elim hq
theorem call_absO (D : DefM X.prog X.w X.K X.mg X.base CX k C "__abs__" ps sp) (hr : Room (k + 1) X.A) (hx : ∀ σ, PassesAt CX X σ E) : CallR X (.builtin "abs") (rSp1 C sp E fun _ => True) := by
  obtain ⟨f, fd, hlk, hm, hb, F⟩ := D.ex
  intro pins s σ H xs us Q I r h
  obtain ⟨a, dx, fs, rfl, ea, q⟩ := h
  obtain ⟨u, rfl, ru⟩ := vals1 r
  cases ru
  obtain ⟨mA, O, _⟩ := ins_get I.hok ea
  refine Calls.call_function_entry kind_abs plain_abs entry_abs (args_abs _) ?_
  unfold Builtin.«abs»
  refine wpAny_bind (wpAny_pure ?_)
  refine wpAny_bind (m := callSpecial? (.ref a) (Str.ofString "__abs__")) (special_own I.kIn O hm (wpAny_mono (run_fnS1 (E := fun _ => E) (us := [.ref a]) (vs := [.ref a]) F hr hb (hx σ) I (.cons rfl .nil) q) (fun v s' ⟨z, H3, I3, rz, _, q3⟩ => ?_) fun _ _ z => z))
  exact wpAny_pure ⟨_, rfl, z, H3, I3, rz, q3⟩
open Builtin Builtin.Str in
theorem call_strO (D : DefM X.prog X.w X.K X.mg X.base CX k C "__str__" ps sp) (hr : Room (k + 1) X.A) (hx : ∀ σ, PassesAt CX X σ E) : CallR X (.type "str") (rSp1 C sp E fun v => ∃ z, v = .str z) := by
  obtain ⟨f, fd, hlk, hm, hb, F⟩ := D.ex
  intro pins s σ H xs us Q I r h
  obtain ⟨a, dx, fs, rfl, ea, q⟩ := h
  obtain ⟨u, rfl, ru⟩ := vals1 r
  cases ru
  obtain ⟨mA, O, _⟩ := ins_get I.hok ea
  have run := run_fnS2 (us := [.ref a]) (vs := [.ref a]) F hr hb (hx σ) I (.cons rfl .nil) q
  refine callType_codes (T := "str") (Bi := Builtin.«object.__init__») (Q₁ := fun r s₁ => ∃ y u, r = .str y u ∧ EP X pins σ Q r s₁) PySem.F.called_str (PySem.F.typeCall_str_1 _) PySem.F.entry_object_init ?_ ?_
  · refine codeAny_of_tree ?_
    show wpAny _ X.A.in1.in1 (do checkBuiltinCall "str.__new__" ⟨[.type "str", .ref a], []⟩; again (.builtin "str.__new__" ⟨[.type "str", .ref a], []⟩)) _ _ s
    refine wpAny_bind (wpAny_of_eq (PySem.F.newCall_str_1 _) (wpAny_pure ⟨plainId_quiet (by decide +kernel) _, codeAny_builtin PySem.F.entry_str_new ?_⟩))
    rw [Around.under_plainId (by decide +kernel) _, str_new_tree]
    refine wpAny_bind (wpAny_pure ?_)
    refine wpAny_bind (wpAny_of_eq isSubtype_str_str ?_)
    have key : wpAny (model X.prog X.w) X.A.in1.in1 (PySem.Builtin.Str.strOf (.ref a)) (fun r s₁ => ∃ y u, r = .str y u ∧ EP X pins σ Q r s₁) X.xe s := by
      unfold PySem.Builtin.Str.strOf
      rw [show isExactStr (.ref a) = false from rfl]
      refine wpAny_bind (m := cRoomFor _ _) (wpAny_cRoomFor (Nat.lt_of_le_of_lt (Nat.le_add_right _ 64) hr.in2.units) ?_)
      refine wpAny_bind (m := callSpecial? (.ref a) (Str.ofString "__str__")) (special_own I.kIn O hm (wpAny_mono run (fun v s' ⟨z, H3, I3, rz, ⟨y, ey⟩, q3⟩ => ?_) fun _ _ z => z))
      subst ey
      obtain ⟨t, rfl⟩ := rz
      exact wpAny_pure ⟨_, _, rfl, .str y, H3, I3, ⟨t, rfl⟩, q3⟩
    exact wpAny_bind (wpAny_mono key (fun r s₁ hr => wpAny_pure hr) fun _ _ y => y)
  · rintro obj s₁ ⟨y, u, rfl, hq⟩
    exact ⟨typeIs_str _ _ _, PySem.F.args_object_init_2 _ _, object_init_meets PySem.F.called_str.init.lookup PySem.F.called_str.made (by decide) X.prog X.w X.A.in1 _ s₁ ⟨typeIs_str _ _ _, rfl, hq⟩⟩
open Builtin in
theorem call_boolO (D : DefM X.prog X.w X.K X.mg X.base CX k C "__bool__" ps sp) (hr : Room (k + 1) X.A) (hx : ∀ σ, PassesAt CX X σ E) : CallR X (.type "bool") (rSp1 C sp E fun v => ∃ z, v = .bl z) := by
  obtain ⟨f, fd, hlk, hm, hb, F⟩ := D.ex
  intro pins s σ H xs us Q I r h
  obtain ⟨a, dx, fs, rfl, ea, q⟩ := h
  obtain ⟨u, rfl, ru⟩ := vals1 r
  cases ru
  obtain ⟨mA, O, _⟩ := ins_get I.hok ea
  have run := run_fnS2 (us := [.ref a]) (vs := [.ref a]) F hr hb (hx σ) I (.cons rfl .nil) q
  have tru : wpAny (model X.prog X.w) X.A.in1.in1 (truthy (.ref a)) (fun b s₁ => EP X pins σ Q (.bool b) s₁) X.xe s := by
    unfold truthy
    refine wpAny_bind (m := callSpecial? (.ref a) (Str.ofString "__bool__")) (special_own I.kIn O hm (wpAny_mono run (fun v s' ⟨z, H3, I3, rz, ⟨b, eb⟩, q3⟩ => ?_) fun _ _ z => z))
    subst eb
    cases rz
    exact wpAny_pure ⟨.bl b, H3, I3, rfl, q3⟩
  refine callType_codes (T := "bool") (Bi := Builtin.«object.__init__») (Q₁ := fun r s₁ => ∃ y, r = .bool y ∧ EP X pins σ Q r s₁) PySem.F.called_bool (PySem.F.typeCall_bool_1 _) PySem.F.entry_object_init ?_ ?_
  · refine codeAny_of_tree ?_
    show wpAny _ X.A.in1.in1 (do checkBuiltinCall "bool.__new__" ⟨[.type "bool", .ref a], []⟩; again (.builtin "bool.__new__" ⟨[.type "bool", .ref a], []⟩)) _ _ s
    refine wpAny_bind (wpAny_of_eq (PySem.F.newCall_bool_1 _) (wpAny_pure ⟨plainId_quiet (by decide +kernel) _, codeAny_builtin PySem.F.entry_bool_new ?_⟩))
    rw [Around.under_plainId (by decide +kernel) _]
    unfold Builtin.«bool.__new__»
    refine wpAny_bind (wpAny_pure ?_)
    refine wpAny_bind (wpAny_of_eq (a := true) PySem.F.conv_sub_bool ?_)
    refine wpAny_bind (m := someArgs _ _ _ _) (wpAny_pure ?_)
    refine wpAny_bind (wpAny_mono tru (fun b s₁ h => wpAny_pure ⟨b, rfl, h⟩) fun _ _ y => y)
  · rintro obj s₁ ⟨y, rfl, hq⟩
    exact ⟨PySem.typeIs_bool _ _, PySem.F.args_object_init_2 _ _, object_init_meets PySem.F.called_bool.init.lookup PySem.F.called_bool.made (by decide) X.prog X.w X.A.in1 _ s₁ ⟨PySem.typeIs_bool _ _, rfl, hq⟩⟩
end
end L2

set_option Elab.async false
set_option linter.all false
set_option maxRecDepth 100000
set_option maxHeartbeats 4000000
/-! Own classes in the ground: operators; instances made with defaults. -/
namespace L2
open PySem PySem.Spec PyProof.Rows PySem.HErr
open PySem.W (findIn isFn)
/-- // by any divisor below 2 ^ 9000 -/
def CDivZ (_ j : Int) : Prop := j ≠ 0 ∧ j.natAbs.log2 < 9000
theorem op_fdivZ {X : Cx} : OpR X (binaryOp .FloorDiv) (rI CDivZ fun i j => .int (i.fdiv j)) := opI fun i j _ _ _ _ _ hc q => floordiv_int hc.1 q (.inl (PyProof.noPylong_of_log2 hc.2))
/-- the values that stand for the parameters of __init__ that are left out -/
def DflI (K : PySem.W.Frag) (C : Addr) (ps : List Str) (dvs : List V) : Prop := ∀ f fd, findIn K (.ref C) "__init__" = some (some (.ref f)) → LkF K f fd → ∃ ds, Vals dvs ds ∧ Binds K fd ps ds
section
variable {X : Cx} {CX : CXT} {k : Nat} {C : Addr} {ps : List Str} {sp : Sp} {E : St → XK} {x : Str} {p pos : Pos} {e : Expr} {es : List Expr} {t : TA} {dvs : List V}
theorem pe_mkDD (D : DefI X.prog X.w X.K X.mg X.base CX k C ps sp) (L : DflI X.K C ps dvs) (hm : X.mg x = some (.ref C)) (hr : Room (k + 1) X.A) (hx : ∀ σ, PassesAt CX X σ (E σ)) (ha : PA X (e :: es) t) (hg : Gl X x := by rfl)
    (hdb : (x == ("__debug__" : Str)) = false := by decide) (he : starEach (e :: es) X.env = (false, eval e X.env) :: starEach es X.env := by rfl) (hpl : (backTo pos (starEach es X.env)).any (·.1) = false := by rfl) :
    PE X (.Call (.Name x p) (e :: es) [] pos) (tMkD C (spDf sp dvs) E t) := by
  obtain ⟨f, fd, hlk, M, _, F⟩ := D.ex
  obtain ⟨ds, hd, hb⟩ := L f fd M.init hlk
  refine ⟨fun pins s0 σ H0 Q I0 h0 => ?_⟩
  refine wpAny_Call_Name_kw (ld_glob I0 hg hm ?_ hdb)
  refine PySem.W.callWith_K (h₀ := X.base) I0.ok.mod.kin M.kp (thn (ha.run pos pins s0 σ H0 _ I0 h0) fun us s ⟨vs, H, I, r, h⟩ => ⟨I.kIn, ?_⟩) he hpl
  show wpAny _ _ (call (.ref C) us) _ _ _
  have hq := h (s.heap.objs.size + 1) s.heap.objs.size (I.hok.fresh (Nat.le_succ _)) (I.hok.fresh (Nat.le_refl _)) (Nat.ne_of_lt (Nat.lt_succ_self _))
  have I2 := Inv.made (C := C) I
  have r1 : Vals (V.ref (s.heap.objs.size + 1) :: vs) (Value.ref (s.heap.objs.size + 1) :: us) := .cons rfl r
  have r2 : Vals ((V.ref (s.heap.objs.size + 1) :: vs) ++ dvs) ((Value.ref (s.heap.objs.size + 1) :: us) ++ ds) := r1.append hd
  have hl : ((Value.ref (s.heap.objs.size + 1) :: us) ++ ds).length = ps.length := by
    have e := r2.length
    rw [F.len _ _ _ _ hq] at e
    exact e.symm
  have hbb := hb _ (Value.ref (s.heap.objs.size + 1) :: us) I2.kIn hl
  refine wpAny_call (make_map (f := f) I.kIn M.makes M.init (beq_iff_eq.mp M.fn) (codeAny_mono (F.run _ X.stack _ _ ⟨Value.ref (s.heap.objs.size + 1) :: us, []⟩ ((Value.ref (s.heap.objs.size + 1) :: us) ++ ds) _ _ (E σ) (hr.make C us [])
    (I2.env0.make C us []) hbb r2 hq) fun r s' hq' => ?_))
  cases r with
  | error e => exact hx σ pins _ _ e s' I2 hq'
  | ok fl =>
    cases fl with
    | ret u =>
      obtain ⟨v, H', I3, rv, ev, q3⟩ := I2.after hq'
      subst ev
      exact ⟨rv, ⟨V.ref (s.heap.objs.size + 1), H', I3, rfl, q3⟩⟩
    | next => exact False.elim hq'
    | brk => exact False.elim hq'
    | cont => exact False.elim hq'
end
section
variable {fr : Fr} {Γ Γ' : Gam} {Θ : List Cel} {F F' H H' : Hp} {K : Vp → List Cel → Prop} {Q : VK} {C : Addr} {sp : Sp} {E : L2.St → XK} {R : V → Prop} {ta tb : TE}
def tAp (t : TA) (dvs : List V) : TA := fun σ H q => t σ H fun vs => q (vs ++ dvs)
theorem wa_ap {t : TA} {dvs : List V} {dps : List Vp} {K : List Vp → List Cel → Prop} (hd : Paired (fun (p : Vp) v => ∀ F, p.p F v) dps dvs) (w : Wa fr Γ Θ t fun ps Θ1 => K (ps ++ dps) Θ1) : Wa fr Γ Θ (tAp t dvs) K := fun σ F H ok env Q q =>
  w σ F H ok env _ fun ps Θ1 hk vs F1 H1 s1 ok1 hps => q _ Θ1 hk _ F1 H1 s1 ok1 (Paired.app hps (Paired.imp2 (fun _ _ h => h F1) hd))
theorem we_mkDf {pre : Pre} {t : TA} {dvs : List V} {dps : List Vp} (hd : Paired (fun (p : Vp) v => ∀ F, p.p F v) dps dvs) (w : Wa fr Γ Θ t fun ps Θ1 => MkPr fr Γ Θ1 pre E (ps ++ dps) K) : We fr Γ Θ (tMkD C (spDf (spI C pre) dvs) E t) K :=
  (we_mkP (t := tAp t dvs) (wa_ap hd w) : We fr Γ Θ (tMkD C (spI C pre) E (tAp t dvs)) K)
/-- what stands on the right side -/
def RgtP (fr : Fr) (Θ : List Cel) (C : Addr) (q : Vp) : Prop := ∀ F H v, OkF fr Θ F H → q.p F v → RgtV C v H
theorem rg_I {i : Int} : RgtP fr Θ C (iz zI i) := fun F H v ok h => .inl ⟨i, h⟩
theorem rg_C {p : Vp} (h : InsC fr Θ p C) : RgtP fr Θ C p := fun F H v ok hv => .inr (h F H v ok hv)
def RP (R : V → Prop) (r : Vp) : Prop := ∀ F v, r.p F v → R v
theorem rp_T {r : Vp} : RP (fun _ => True) r := fun _ _ _ => True.intro
theorem we_sp2 (w : We fr Γ Θ ta fun p Θ1 => We fr Γ Θ1 tb fun q Θ2 => InsC fr Θ2 p C ∧ RgtP fr Θ2 C q ∧ Sps fr Γ Θ2 sp E [p, q] fun r Θ3 => RP R r ∧ K r Θ3) : We fr Γ Θ (tSp2 C sp E R ta tb) K := fun σ F H ok env Q k =>
  w σ F H ok env _ fun p Θ1 w1 x F1 H1 s1 ok1 hx => w1 σ F1 H1 ok1 (env.mono s1) _ fun q Θ2 ⟨ic, ir, w2⟩ y F2 H2 s2 ok2 hy => by
    have hx2 := p.mono s2 hx
    obtain ⟨a, dx, fs, rfl, h2⟩ := ic F2 H2 x ok2 hx2
    exact ⟨a, dx, fs, rfl, h2, ir F2 H2 y ok2 hy, w2 σ F2 H2 _ ok2 ((env.mono s1).mono s2) (.cons hx2 (.cons hy .nil)) _ fun r Θ3 ⟨hr, kk⟩ v F3 H3 s3 ok3 hv => ⟨hr F3 v hv, k _ Θ3 kk _ F3 H3 ((s1.trans s2).trans s3) ok3 hv⟩⟩
theorem we_sp2R (w : We fr Γ Θ ta fun p Θ1 => We fr Γ Θ1 tb fun q Θ2 => ∃ i, p = iz zI i ∧ InsC fr Θ2 q C ∧ Sps fr Γ Θ2 sp E [q, iz zI i] fun r Θ3 => RP R r ∧ K r Θ3) : We fr Γ Θ (tSp2R C sp E R ta tb) K := fun σ F H ok env Q k =>
  w σ F H ok env _ fun p Θ1 w1 x F1 H1 s1 ok1 hx => w1 σ F1 H1 ok1 (env.mono s1) _ fun q Θ2 ⟨i, ep, ic, w2⟩ y F2 H2 s2 ok2 hy => by
    subst ep
    have hx : x = .int i := hx
    subst hx
    obtain ⟨a, dx, fs, rfl, h2⟩ := ic F2 H2 y ok2 hy
    exact ⟨i, a, dx, fs, rfl, rfl, h2, w2 σ F2 H2 _ ok2 ((env.mono s1).mono s2) (.cons hy (.cons rfl .nil)) _ fun r Θ3 ⟨hr, kk⟩ v F3 H3 s3 ok3 hv => ⟨hr F3 v hv, k _ Θ3 kk _ F3 H3 ((s1.trans s2).trans s3) ok3 hv⟩⟩
theorem we_ne2 (w : We fr Γ Θ ta fun p Θ1 => We fr Γ Θ1 tb fun q Θ2 => InsC fr Θ2 p C ∧ RgtP fr Θ2 C q ∧ Sps fr Γ Θ2 sp E [p, q] fun r Θ3 => ∃ b, r = iz zB b ∧ K (iz zB (!b)) Θ3) : We fr Γ Θ (tNe2 C sp E ta tb) K := fun σ F H ok env Q k =>
  w σ F H ok env _ fun p Θ1 w1 x F1 H1 s1 ok1 hx => w1 σ F1 H1 ok1 (env.mono s1) _ fun q Θ2 ⟨ic, ir, w2⟩ y F2 H2 s2 ok2 hy => by
    have hx2 := p.mono s2 hx
    obtain ⟨a, dx, fs, rfl, h2⟩ := ic F2 H2 x ok2 hx2
    exact ⟨a, dx, fs, rfl, h2, ir F2 H2 y ok2 hy, w2 σ F2 H2 _ ok2 ((env.mono s1).mono s2) (.cons hx2 (.cons hy .nil)) _ fun r Θ3 ⟨b, er, kk⟩ v F3 H3 s3 ok3 hv => by
      subst er
      have hv : v = .bl b := hv
      exact ⟨b, hv, k _ Θ3 kk _ F3 H3 ((s1.trans s2).trans s3) ok3 rfl⟩⟩
theorem we_ne2R (w : We fr Γ Θ ta fun p Θ1 => We fr Γ Θ1 tb fun q Θ2 => ∃ i, p = iz zI i ∧ InsC fr Θ2 q C ∧ Sps fr Γ Θ2 sp E [q, iz zI i] fun r Θ3 => ∃ b, r = iz zB b ∧ K (iz zB (!b)) Θ3) : We fr Γ Θ (tNe2R C sp E ta tb) K := fun σ F H ok env Q k =>
  w σ F H ok env _ fun p Θ1 w1 x F1 H1 s1 ok1 hx => w1 σ F1 H1 ok1 (env.mono s1) _ fun q Θ2 ⟨i, ep, ic, w2⟩ y F2 H2 s2 ok2 hy => by
    subst ep
    have hx : x = .int i := hx
    subst hx
    obtain ⟨a, dx, fs, rfl, h2⟩ := ic F2 H2 y ok2 hy
    exact ⟨i, a, dx, fs, rfl, rfl, h2, w2 σ F2 H2 _ ok2 ((env.mono s1).mono s2) (.cons hy (.cons rfl .nil)) _ fun r Θ3 ⟨b, er, kk⟩ v F3 H3 s3 ok3 hv => by
      subst er
      have hv : v = .bl b := hv
      exact ⟨b, hv, k _ Θ3 kk _ F3 H3 ((s1.trans s2).trans s3) ok3 rfl⟩⟩
theorem we_sp1 (w : We fr Γ Θ ta fun p Θ1 => InsC fr Θ1 p C ∧ Sps fr Γ Θ1 sp E [p] K) : We fr Γ Θ (tSp1 C sp E ta) K := fun σ F H ok env Q k =>
  w σ F H ok env _ fun p Θ1 ⟨ic, w1⟩ x F1 H1 s1 ok1 hx => by
    obtain ⟨a, dx, fs, rfl, h2⟩ := ic F1 H1 x ok1 hx
    exact ⟨a, dx, fs, rfl, h2, w1 σ F1 H1 _ ok1 (env.mono s1) (.cons hx .nil) _ fun r Θ3 kk v F3 H3 s3 ok3 hv => k _ Θ3 kk _ F3 H3 (s1.trans s3) ok3 hv⟩
theorem cb_sp1 {E : XK} {p : Vp} (ic : InsC fr Θ p C) (w : Sps fr [] Θ sp (fun _ => E) [p] fun r Θ3 => RP R r ∧ K r Θ3) : Cbs fr Θ (rSp1 C sp E R) [p] K := fun F H vs ok hps Q k => by
  cases hps with
  | cons h1 hp => cases hp with
    | nil =>
      obtain ⟨a, dx, fs, rfl, h2⟩ := ic F H _ ok h1
      exact ⟨a, dx, fs, rfl, h2, w [] F H _ ok .nil (.cons h1 .nil) _ fun r Θ3 ⟨hr, kk⟩ v F3 H3 s3 ok3 hv => ⟨hr F3 v hv, k _ Θ3 kk _ F3 H3 s3 ok3 hv⟩⟩
theorem rp_B {b : Bool} : RP (fun v => ∃ z, v = .bl z) (iz zB b) := fun F v h => ⟨b, h⟩
theorem rp_S {b : Str} : RP (fun v => ∃ z, v = .str z) (iz yS b) := fun F v h => ⟨b, h.1.1⟩
theorem insC_in {α : Type} {g : α → List (Str × Vp)} {x : α} : InsC fr Θ (iz (zIn C g) x) C := fun F H v ok ⟨a, dx, us, h1, h2, _⟩ => ⟨a, dx, us, h1, ok.fh _ _ h2⟩
end
/-! ### one of two kinds; isinstance -/
def uD {α β : Type} (x : α ⊕ β) (A : α → Prop) (B : β → Prop) : Prop := (∀ y, x = .inl y → A y) ∧ ∀ y, x = .inr y → B y
theorem uK {α β : Type} {x : α ⊕ β} {A : α → Prop} {B : β → Prop} {G1 G2 : Prop} (h : uD x A B) (h1 : ∀ y, x = .inl y → A y → G1) (h2 : ∀ y, x = .inr y → B y → G2) : (uEl true false x = true → G1) ∧ (uEl true false x = false → G2) := by
  cases x with
  | inl y => exact ⟨fun _ => h1 y rfl (h.1 y rfl), (fun e => by cases e)⟩
  | inr y => exact ⟨(fun e => by cases e), fun _ => h2 y rfl (h.2 y rfl)⟩
theorem uD_l {α β : Type} {y : α} {A : α → Prop} {B : β → Prop} (h : A y) : uD (.inl y : α ⊕ β) A B := ⟨(fun z e => by cases e; exact h), (fun z e => by cases e)⟩
theorem uD_r {α β : Type} {y : β} {A : α → Prop} {B : β → Prop} (h : B y) : uD (.inr y : α ⊕ β) A B := ⟨(fun z e => by cases e), (fun z e => by cases e; exact h)⟩
def zAtR (C : Addr) : Rep Unit := ⟨fun _ v _ => v = .ref C, fun _ h => h⟩
def zTyR (n : String) : Rep Unit := ⟨fun _ v _ => v = .ty n, fun _ h => h⟩
section
variable {fr : Fr} {Γ Γ' : Gam} {Θ : List Cel} {F F' H H' : Hp} {K : Vp → List Cel → Prop} {C D : Addr} {Kf : PySem.W.Frag} {α : Type} {g : α → List (Str × Vp)}
theorem ty_in {x : α} (T : IsO Kf C) : TyP fr Θ Kf (iz (zIn C g) x) (.ref C) := fun F H v ok h => by
  obtain ⟨a, dx, fs, rfl, h3⟩ := insC_in F H v ok h
  exact .base (.ins h3 T.cl T.ha T.hn T.htk T.hm)
/-- isinstance(x, D), x of the class at C or an int -/
theorem cb_isUI {x : α ⊕ Int} (T : IsO Kf C) (hk : PySem.W.kitOne Kf (.ref C) (.ref D) = some true) (hi : PySem.W.kitOne Kf (.type "int") (.ref D) = some false) (k : K (iz zB (uEl true false x)) Θ) : Cbs fr Θ (rIsi Kf) [iz (yU (zIn C g) zI) x, zAt D] K := fun F H vs ok hps Q q => by
  cases hps with
  | cons h1 hp => cases hp with
    | cons h2 hp => cases hp with
      | nil =>
        have h2 : _ = V.ref D := h2
        subst h2
        cases x with
        | inl y => exact ⟨_, .ref D, .ref C, .ref D, true, rfl, .own D, ty_in T F H _ ok h1, hk, q.go k ok rfl⟩
        | inr y => exact ⟨_, .ref D, .type "int", .ref D, false, rfl, .own D, ty_I F H _ ok h1, hi, q.go k ok rfl⟩
/-- isinstance(x, (D, int)), x of the class at C or an int -/
theorem cb_isTI {x : α ⊕ Int} (T : IsO Kf C) (hk : PySem.W.kitAny Kf (.ref C) [.ref D, .type "int"] = some true) (hi : PySem.W.kitAny Kf (.type "int") [.ref D, .type "int"] = some true) (k : K (iz zB true) Θ) : Cbs fr Θ (rIsiT Kf) [iz (yU (zIn C g) zI) x, iz (z2 (zAtR D) (zTyR "int")) ((), ())] K := fun F H vs ok hps Q q => by
  cases hps with
  | cons h1 hp => cases hp with
    | cons h2 hp => cases hp with
      | nil =>
        obtain ⟨a, u, w, rfl, h3, h4, h5⟩ := h2
        have h4 : u = .ref D := h4
        have h5 : w = .ty "int" := h5
        subst h4 h5
        have pr : Paired ClsV [.ref D, .ty "int"] [.ref D, .type "int"] := .cons (.own D) (.cons (.ty "int") .nil)
        cases x with
        | inl y => exact ⟨_, a, _, .ref C, _, true, rfl, ok.fh _ _ h3, pr, ty_in T F H _ ok h1, hk, q.go k ok rfl⟩
        | inr y => exact ⟨_, a, _, .type "int", _, true, rfl, ok.fh _ _ h3, pr, ty_I F H _ ok h1, hi, q.go k ok rfl⟩
theorem tr_cls {n : String} : TupR [zAt D, zTy n] (iz (z2 (zAtR D) (zTyR n)) ((), ())) := tr2 (r := zAtR D) (s := zTyR n) (x := ()) (y := ())
end
/-- an own class, all that is asked of it -/
structure ClsA (K : PySem.W.Frag) (mg : Str → Option Value) (C : Addr) (x : Str) (fs : List Str) : Prop extends ClsF K C fs where
  mg : mg x = some (.ref C)
  io : IsO K C
  k1 : PySem.W.kitOne K (.ref C) (.ref C) = some true
  k2 : PySem.W.kitOne K (.type "int") (.ref C) = some false
  k3 : PySem.W.kitAny K (.ref C) [.ref C, .type "int"] = some true
  k4 : PySem.W.kitAny K (.type "int") [.ref C, .type "int"] = some true
  cc : CmpC K C
theorem ClsA.glo {K : PySem.W.Frag} {mg : Str → Option Value} {C : Addr} {x : Str} {fs : List Str} (T : ClsA K mg C x fs) : Glo mg x (.ref C) := ⟨_, T.mg, rfl⟩
theorem kcall_isiT {X : Cx} {K : PySem.W.Frag} (h : X.K = K := by rfl) : CallR X (.builtin "isinstance") (rIsiT K) := h ▸ call_isiT
theorem InitW.fine {α : Type} {fr fr' : Fr} {x C : Addr} {g : α → List (Str × Vp)} {Qn : L2.St → Hp → Prop} {Q : α → Prop} (h : InitW fr x C g Qn Q) (l : FrLe fr fr') : InitW fr' x C g Qn Q := fun y hy Γ Θ i dx hi σ F H ok env => h y hy Γ Θ i dx hi σ F H (ok.le l) env
section
variable {fr : Fr} {Θ : List Cel} {Kf : PySem.W.Frag} {α β γ δ ε : Type} {r : Rep α} {s : Rep β} {t : Rep γ} {u : Rep δ} {o : Rep ε}
theorem ty_3 {x : α × β × γ} : TyP fr Θ Kf (iz (z3 r s t) x) (.type "tuple") := fun F H v ok ⟨a, _, _, _, h1, h2, _⟩ => by subst h1; exact .base (.tup (ok.fh _ _ h2))
theorem ty_4 {x : α × β × γ × δ} : TyP fr Θ Kf (iz (z4 r s t u) x) (.type "tuple") := fun F H v ok ⟨a, _, _, _, _, h1, h2, _⟩ => by subst h1; exact .base (.tup (ok.fh _ _ h2))
theorem ty_5 {x : α × β × γ × δ × ε} : TyP fr Θ Kf (iz (z5 r s t u o) x) (.type "tuple") := fun F H v ok ⟨a, _, _, _, _, _, h1, h2, _⟩ => by subst h1; exact .base (.tup (ok.fh _ _ h2))
end
/-! ### __init__ with defaults, out of what the top has left -/
section
variable {K : PySem.W.Frag} {qual : Str} {C : Addr} {st : Stmt} {ps : List Str} {f T : Addr} {oc oc' : Value} {od od' an : Option Addr} {osl sl' : Array (Option Value)} {kV doc pm cdv ct : Value} {its : List Value} {n' : Nat} {dvs : List V}
theorem funDI_mk (l : K.lookup f = some ⟨oc, od, .func (PySem.W.fnOf "__init__" qual (defArgs st) (defBody st) (defScope st) (.ref T) kV doc pm an cdv ct), osl⟩) (c : PySem.W.codeIn K cdv qual = true) (k : PySem.W.keepIn K (.ref f) = true)
    (dl : K.lookup T = some ⟨oc', od', .seq its.toArray n', sl'⟩) (rv : Vals dvs its) (hd : dvs ≠ []) : FunD K "__init__" qual (defArgs st) (defBody st) (defScope st) dvs [] f (PySem.W.fnOf "__init__" qual (defArgs st) (defBody st) (defScope st) (.ref T) kV doc pm an cdv ct) :=
  ⟨⟨oc, od, .ref T, kV, doc, pm, an, cdv, ct, osl, rfl, l, c, .inr ⟨hd, T, _, its, n', rfl, dl, rfl, rv⟩, .inl rfl⟩, k⟩
theorem srcID_mk (mk : PySem.W.makesIn K C = true) (kc : PySem.W.keepIn K (.ref C) = true) (a : findIn K (.ref C) "__init__" = some (some (.ref f))) (i : isFn K (.ref f) = true)
    (l : K.lookup f = some ⟨oc, od, .func (PySem.W.fnOf "__init__" qual (defArgs st) (defBody st) (defScope st) (.ref T) kV doc pm an cdv ct), osl⟩) (c : PySem.W.codeIn K cdv qual = true) (k : PySem.W.keepIn K (.ref f) = true)
    (dl : K.lookup T = some ⟨oc', od', .seq its.toArray n', sl'⟩) (rv : Vals dvs its) (hd : dvs ≠ [])
    (hb : ∀ (T : Addr) (kV doc pm : Value) (an : Option Addr) (cdv ct : Value) (us its : List Value), us.length = ps.length → its.length = dvs.length → ∃ k, bindArgs (PySem.W.fnOf "__init__" qual (defArgs st) (defBody st) (defScope st) (.ref T) kV doc pm an cdv ct) ⟨us, []⟩ = seqItems? (.ref T) >>= k ∧ k (some its.toArray) = pure (ps.zip us)) : SrcI K C qual st ps := by
  have F := funDI_mk l c k dl rv hd
  obtain ⟨ds, h1, h2⟩ := F.binds1 (ps := ps) ps.length dvs.length hd (by omega) (fun T kV doc pm an cdv ct us its h1 h2 => by
    obtain ⟨k, e1, e2⟩ := hb T kV doc pm an cdv ct us its h1 h2
    refine ⟨k, e1, ?_⟩
    rw [e2, ← h2, List.drop_length, List.append_nil])
  rw [List.drop_length] at h1
  cases h1
  exact ⟨f, _, ⟨⟨oc, od, .ref T, kV, doc, pm, an, cdv, ct, osl, rfl, l, c⟩, k⟩, ⟨mk, a, i, kc⟩, h2⟩
theorem dflI_mk (n : Nat) (a : findIn K (.ref C) "__init__" = some (some (.ref f))) (l : K.lookup f = some ⟨oc, od, .func (PySem.W.fnOf "__init__" qual (defArgs st) (defBody st) (defScope st) (.ref T) kV doc pm an cdv ct), osl⟩) (c : PySem.W.codeIn K cdv qual = true) (k : PySem.W.keepIn K (.ref f) = true)
    (dl : K.lookup T = some ⟨oc', od', .seq its.toArray n', sl'⟩) (rv : Vals dvs its) (hd : dvs ≠ []) (hn : n + dvs.length = ps.length)
    (hb : ∀ (T : Addr) (kV doc pm : Value) (an : Option Addr) (cdv ct : Value) (us its : List Value), us.length = n → its.length = dvs.length → ∃ k, bindArgs (PySem.W.fnOf "__init__" qual (defArgs st) (defBody st) (defScope st) (.ref T) kV doc pm an cdv ct) ⟨us, []⟩ = seqItems? (.ref T) >>= k ∧ k (some its.toArray) = pure (ps.zip (us ++ its))) : DflI K C ps dvs := by
  intro f' fd' hm ⟨oc2, od2, osl2, lk⟩
  rw [a] at hm
  cases hm
  rw [l] at lk
  cases lk
  have F := funDI_mk l c k dl rv hd
  exact F.binds1 (ps := ps) n 0 hd (by omega) (fun T kV doc pm an cdv ct us its h1 h2 => hb T kV doc pm an cdv ct us its h1 h2)
end
theorem cy_boolI {fr : Fr} {Θ : List Cel} {K : Vp → List Cel → Prop} {n : Int} (k : K (iz zB (n != 0)) Θ) : Cbs fr Θ (fun xs H Q => (∃ i, xs = [.int i] ∧ Q (.bl (i != 0)) H) ∨ ∃ k, xs = [.bl k] ∧ Q (.bl k) H) [iz zI n] K := fun F H vs ok hps Q q => by
  cases hps with
  | cons h1 hp => cases hp with
    | nil =>
      have h1 : _ = V.int n := h1
      subst h1
      exact .inl ⟨n, rfl, q.go k ok rfl⟩
end L2

set_option Elab.async false
set_option linter.all false
set_option maxRecDepth 100000
set_option maxHeartbeats 4000000
/-! Plain facts about states, steps, tables, runs. -/
namespace L2
open PySem PySem.Spec PyProof.Rows PySem.HErr
theorem ixNn {n j : Nat} (h : j < n) : ixN n (j : Int) = some j := by
  unfold ixN
  rw [if_pos (by omega), if_pos (by omega)]
  rfl
/-! states, and steps by the numbers of their places -/
abbrev TRw := Str × List Int × List Int
def IxOk (n : Nat) (ks : List Int) : Prop := ks.Nodup ∧ ∀ k ∈ ks, ∃ j : Nat, k = (j : Int) ∧ j < n
def bmp (d : Int) (ks : List Int) (st : List Int) : List Int := ks.foldl (fun s k => s.set k.toNat (s.getD k.toNat 0 + d)) st
theorem bmp_len (d : Int) : ∀ (ks : List Int) (st : List Int), (bmp d ks st).length = st.length
  | [], _ => rfl
  | k :: ks, st => by
    show (bmp d ks _).length = _
    rw [bmp_len d ks, List.length_set]
theorem bmp_snoc (d : Int) (ks : List Int) (k : Int) (st : List Int) : bmp d (ks ++ [k]) st = (bmp d ks st).set k.toNat ((bmp d ks st).getD k.toNat 0 + d) := by
  unfold bmp
  rw [List.foldl_append]
  rfl
theorem getD_set {l : List Int} {i j : Nat} {v : Int} (h : i < l.length) : (l.set i v).getD j 0 = if i = j then v else l.getD j 0 := by
  rw [List.getD_eq_getElem?_getD, List.getElem?_set, List.getD_eq_getElem?_getD]
  by_cases e : i = j
  · rw [if_pos e, if_pos h, if_pos e]; rfl
  · rw [if_neg e, if_neg e]
theorem bmp_get {d : Int} : ∀ {ks : List Int} {st : List Int}, IxOk st.length ks → ∀ j : Nat, (bmp d ks st).getD j 0 = st.getD j 0 + (if (j : Int) ∈ ks then d else 0)
  | [], st, _, j => by simp [bmp]
  | k :: ks, st, h, j => by
    obtain ⟨hn, hm⟩ := h
    obtain ⟨i, rfl, hi⟩ := hm k (List.mem_cons_self ..)
    rw [List.nodup_cons] at hn
    show (bmp d ks (st.set i (st.getD i 0 + d))).getD j 0 = _
    rw [bmp_get (by rw [List.length_set]; exact ⟨hn.2, fun k hk => hm k (List.mem_cons_of_mem _ hk)⟩), getD_set hi]
    by_cases e : i = j
    · subst e
      rw [if_pos rfl, if_neg hn.1, if_pos (List.mem_cons_self ..)]
      omega
    · rw [if_neg e]
      have : ((j : Int) ∈ (i : Int) :: ks) ↔ (j : Int) ∈ ks := by
        rw [List.mem_cons]
        exact ⟨fun h => h.elim (fun h => absurd (by omega) e) id, .inr⟩
      by_cases q : (j : Int) ∈ ks
      · rw [if_pos q, if_pos (this.mpr q)]
      · rw [if_neg q, if_neg (fun h => q (this.mp h))]
/-- the state behind a step -/
def mvF (s t g : List Int) : List Int := (List.range s.length).map fun (j : Nat) => s.getD j 0 - (if (j : Int) ∈ t then 1 else 0) + (if (j : Int) ∈ g then 1 else 0)
theorem mvF_len {s t g : List Int} : (mvF s t g).length = s.length := by unfold mvF; rw [List.length_map, List.length_range]
theorem mvF_get {s t g : List Int} {j : Nat} (h : j < s.length) : (mvF s t g).getD j 0 = s.getD j 0 - (if (j : Int) ∈ t then 1 else 0) + (if (j : Int) ∈ g then 1 else 0) := by
  unfold mvF
  rw [List.getD_eq_getElem?_getD, List.getElem?_map, List.getElem?_range h]
  rfl
theorem ext_getD {l m : List Int} (hl : l.length = m.length) (h : ∀ j < l.length, l.getD j 0 = m.getD j 0) : l = m := by
  refine List.ext_getElem hl fun j h1 h2 => ?_
  have := h j h1
  rw [List.getD_eq_getElem?_getD, List.getD_eq_getElem?_getD, List.getElem?_eq_getElem h1, List.getElem?_eq_getElem h2] at this
  exact this
theorem bmp_mv {s t g : List Int} (ht : IxOk s.length t) (hg : IxOk s.length g) : bmp 1 g (bmp (-1) t s) = mvF s t g := by
  refine ext_getD (by rw [bmp_len, bmp_len, mvF_len]) fun j hj => ?_
  rw [bmp_len, bmp_len] at hj
  rw [bmp_get (by rw [bmp_len]; exact hg), bmp_get ht, mvF_get hj]
  split <;> split <;> omega
def enB (s t : List Int) : Bool := t.all fun k => decide (s.getD k.toNat 0 > 0)
def movF (s t g : List Int) : Option (List Int) := if enB s t = true then some (mvF s t g) else none
def enA (s t : List Int) : Bool := t.all fun k => !decide (s.getD k.toNat 0 = 0)
def aftF (s t g : List Int) : Option (List Int) := if enA s t = true then some (mvF s t g) else none
def NonN (s : List Int) : Prop := ∀ n ∈ s, 0 ≤ n
theorem NonN.get {s : List Int} (h : NonN s) (j : Nat) : 0 ≤ s.getD j 0 := by
  rw [List.getD_eq_getElem?_getD]
  cases e : s[j]? with
  | none => exact Int.le_refl _
  | some x => exact h x (List.mem_of_getElem? e)
theorem nonN_of {s : List Int} (h : ∀ j < s.length, 0 ≤ s.getD j 0) : NonN s := fun n hn => by
  obtain ⟨j, hj⟩ := List.getElem?_of_mem hn
  have h1 := (List.getElem?_eq_some_iff.mp hj).1
  have := h j h1
  rw [List.getD_eq_getElem?_getD, hj] at this
  exact this
theorem en_eq {s t : List Int} (h : NonN s) : enA s t = enB s t := by
  unfold enA enB
  congr 1
  funext k
  have := h.get k.toNat
  rw [Bool.eq_iff_iff, Bool.not_eq_true', decide_eq_false_iff_not, decide_eq_true_iff]
  omega
theorem aft_mov {s t g : List Int} (h : NonN s) : aftF s t g = movF s t g := by
  unfold aftF movF
  rw [en_eq h]
/-- only what is in the lists counts -/
theorem enB_congr {s t t' : List Int} (h : ∀ k, k ∈ t ↔ k ∈ t') : enB s t = enB s t' := by
  unfold enB
  rw [Bool.eq_iff_iff, List.all_eq_true, List.all_eq_true]
  exact ⟨fun q k hk => q k ((h k).mpr hk), fun q k hk => q k ((h k).mp hk)⟩
theorem mvF_congr {s t t' g g' : List Int} (h : ∀ k, k ∈ t ↔ k ∈ t') (h' : ∀ k, k ∈ g ↔ k ∈ g') : mvF s t g = mvF s t' g' := by
  unfold mvF
  congr 1
  funext j
  rw [show (if (j : Int) ∈ t then (1 : Int) else 0) = if (j : Int) ∈ t' then 1 else 0 from by simp only [h], show (if (j : Int) ∈ g then (1 : Int) else 0) = if (j : Int) ∈ g' then 1 else 0 from by simp only [h']]
theorem movF_congr {s t t' g g' : List Int} (h : ∀ k, k ∈ t ↔ k ∈ t') (h' : ∀ k, k ∈ g ↔ k ∈ g') : movF s t g = movF s t' g' := by
  unfold movF
  rw [enB_congr h, mvF_congr h h']
theorem movF_len {s t g z : List Int} (h : movF s t g = some z) : z.length = s.length := by
  unfold movF at h
  split at h
  · cases h; exact mvF_len
  · cases h
theorem movF_non {s t g z : List Int} (hs : NonN s) (ht : IxOk s.length t) (h : movF s t g = some z) : NonN z := by
  unfold movF at h
  split at h
  · rename_i he
    cases h
    refine nonN_of fun j hj => ?_
    rw [mvF_len] at hj
    rw [mvF_get hj]
    have h0 := hs.get j
    by_cases q : (j : Int) ∈ t
    · have := List.all_eq_true.mp he _ q
      have := of_decide_eq_true this
      rw [Int.toNat_natCast] at this
      rw [if_pos q]
      split <;> omega
    · rw [if_neg q]
      split <;> omega
  · cases h
theorem aftF_len {s t g z : List Int} (h : aftF s t g = some z) : z.length = s.length := by
  unfold aftF at h
  split at h
  · cases h; exact mvF_len
  · cases h
/-- two tables of the same steps -/
def RowR (n : Nat) (a b : TRw) : Prop := a.1 = b.1 ∧ (∀ k, k ∈ a.2.1 ↔ k ∈ b.2.1) ∧ (∀ k, k ∈ a.2.2 ↔ k ∈ b.2.2) ∧ IxOk n a.2.1 ∧ IxOk n a.2.2 ∧ IxOk n b.2.1 ∧ IxOk n b.2.2
abbrev TabRel (n : Nat) (a b : List TRw) : Prop := Paired (RowR n) a b
def TabOk (n : Nat) (a : List TRw) : Prop := (∀ r ∈ a, IxOk n r.2.1 ∧ IxOk n r.2.2) ∧ (a.map (·.1)).Nodup
def rowOf (tab : List TRw) (z : Str) : Option TRw := tab.find? fun r => decide (r.1 = z)
theorem RowR.mov {n : Nat} {a b : TRw} (h : RowR n a b) {s : List Int} : movF s a.2.1 a.2.2 = movF s b.2.1 b.2.2 := movF_congr h.2.1 h.2.2.1
theorem TabRel.row {n : Nat} {a b : List TRw} (h : TabRel n a b) (z : Str) : (rowOf a z = none ∧ rowOf b z = none) ∨ ∃ r r', rowOf a z = some r ∧ rowOf b z = some r' ∧ RowR n r r' := by
  induction h with
  | nil => exact .inl ⟨rfl, rfl⟩
  | @cons r r' as bs hr _ ih =>
    unfold rowOf
    rw [List.find?_cons, List.find?_cons]
    by_cases e : r.1 = z
    · refine .inr ⟨r, r', ?_, ?_, hr⟩
      · rw [decide_eq_true e]
      · rw [decide_eq_true (hr.1.symm.trans e)]
    · rw [decide_eq_false e, decide_eq_false (fun q => e (hr.1.trans q))]
      exact ih
/-- the state behind a run -/
def runF (tab : List TRw) : List Int → List Str → Option (List Int)
  | s, [] => some s
  | s, z :: zs => match rowOf tab z with
    | none => none
    | some r => match movF s r.2.1 r.2.2 with
      | none => none
      | some s' => runF tab s' zs
theorem runF_rel {n : Nat} {a b : List TRw} (h : TabRel n a b) : ∀ (zs : List Str) (s : List Int), runF a s zs = runF b s zs
  | [], _ => rfl
  | z :: zs, s => by
    unfold runF
    rcases h.row z with ⟨h1, h2⟩ | ⟨r, r', h1, h2, hr⟩
    · rw [h1, h2]
    · rw [h1, h2]
      dsimp only
      rw [hr.mov]
      cases movF s r'.2.1 r'.2.2 with
      | none => rfl
      | some s' => exact runF_rel h zs s'
theorem runF_app (tab : List TRw) : ∀ (zs ys : List Str) (s : List Int), runF tab s (zs ++ ys) = (runF tab s zs).bind fun s' => runF tab s' ys
  | [], ys, s => rfl
  | z :: zs, ys, s => by
    show runF tab s (z :: (zs ++ ys)) = _
    rw [runF, runF]
    cases rowOf tab z with
    | none => rfl
    | some r =>
      dsimp only
      cases movF s r.2.1 r.2.2 with
      | none => rfl
      | some s' => exact runF_app tab zs ys s'
theorem rowOf_mem {tab : List TRw} {z : Str} {r : TRw} (h : rowOf tab z = some r) : r ∈ tab ∧ r.1 = z := ⟨List.mem_of_find?_eq_some h, of_decide_eq_true (List.find?_some (p := fun r : TRw => decide (r.1 = z)) h)⟩
theorem rowOf_of {tab : List TRw} (hn : (tab.map (·.1)).Nodup) {r : TRw} (h : r ∈ tab) : rowOf tab r.1 = some r := by
  unfold rowOf
  induction tab with
  | nil => cases h
  | cons x tab ih =>
    rw [List.map_cons, List.nodup_cons] at hn
    rw [List.find?_cons]
    rcases List.mem_cons.mp h with rfl | h
    · rw [decide_eq_true rfl]
    · rw [decide_eq_false (fun e => hn.1 (List.mem_map.mpr ⟨r, h, e.symm⟩))]
      exact ih hn.2 h
theorem runF_keep {n : Nat} {tab : List TRw} (ht : TabOk n tab) : ∀ (zs : List Str) {s z : List Int}, s.length = n → NonN s → runF tab s zs = some z → z.length = n ∧ NonN z
  | [], s, z, hl, hn, h => by cases h; exact ⟨hl, hn⟩
  | y :: zs, s, z, hl, hn, h => by
    unfold runF at h
    cases e : rowOf tab y with
    | none => rw [e] at h; cases h
    | some r =>
      rw [e] at h
      dsimp only at h
      cases e2 : movF s r.2.1 r.2.2 with
      | none => rw [e2] at h; cases h
      | some s' =>
        rw [e2] at h
        exact runF_keep ht zs ((movF_len e2).trans hl) (movF_non hn (by rw [hl]; exact (ht.1 r (rowOf_mem e).1).1) e2) h
theorem TabRel.okL {n : Nat} {a b : List TRw} (h : TabRel n a b) : ∀ r ∈ a, IxOk n r.2.1 ∧ IxOk n r.2.2 := fun r hr => by
  obtain ⟨i, hi⟩ := List.getElem?_of_mem hr
  obtain ⟨r', _, q⟩ := Paired.get h hi
  exact ⟨q.2.2.2.1, q.2.2.2.2.1⟩
theorem TabRel.okR {n : Nat} {a b : List TRw} (h : TabRel n a b) : ∀ r ∈ b, IxOk n r.2.1 ∧ IxOk n r.2.2 := fun r hr => by
  obtain ⟨i, hi⟩ := List.getElem?_of_mem hr
  obtain ⟨r', _, q⟩ := Paired.get' h hi
  exact ⟨q.2.2.2.2.2.1, q.2.2.2.2.2.2⟩
theorem TabRel.names {n : Nat} {a b : List TRw} (h : TabRel n a b) : a.map (·.1) = b.map (·.1) := by
  induction h with
  | nil => rfl
  | cons hr _ ih => rw [List.map_cons, List.map_cons, hr.1, ih]
/-! tests on all, with a way out -/
theorem forD_allB {α S : Type} {body : α → S → (S → Prop) → (S → Prop) → Prop} {after : S → Prop} {s : S} {R : Prop} (p : α → Bool) : ∀ {xs : List α}, (∀ x ∈ xs, ∀ nx : S → Prop, (p x = true → nx s) → (p x = false → R) → body x s nx after) → (xs.all p = true → after s) → (xs.all p = false → R) → forD xs s body after
  | [], _, h, _ => h rfl
  | x :: xs, hb, ht, hf => by
    refine hb x (List.mem_cons_self ..) _ (fun h => forD_allB p (fun y hy => hb y (List.mem_cons_of_mem _ hy)) (fun q => ht ?_) fun q => hf ?_) fun h => hf ?_
    · rw [List.all_cons, h, q]; rfl
    · rw [List.all_cons, h, q]; rfl
    · rw [List.all_cons, h]; rfl
theorem optD_n {α : Type} {A : Prop} {B : α → Prop} (h : A) : optD none A B := ⟨fun _ => h, fun _ e => nomatch e⟩
theorem optD_s {α : Type} {A : Prop} {B : α → Prop} {x : α} (h : B x) : optD (some x) A B := ⟨(fun e => nomatch e), fun _ e => by cases e; exact h⟩
/-! dicts of states -/
theorem getT_map {α : Type} {f : List Int → α} {ss : List (List Int)} {z : List Int} : (getT (ss.map fun s => (s, f s)) z).isSome = decide (z ∈ ss) := by
  unfold getT
  rw [Option.isSome_map]
  induction ss with
  | nil => rfl
  | cons s ss ih =>
    rw [List.map_cons, List.find?_cons]
    by_cases e : s = z
    · rw [decide_eq_true e]; simp [e]
    · rw [decide_eq_false e, ih]
      have : ¬ z = s := fun q => e q.symm
      simp [this]
theorem putT_new {ss : List (List Int)} {s : List Int} (h : s ∉ ss) : putT (ss.map fun s => (s, true)) s true = (ss ++ [s]).map fun s => (s, true) := by
  unfold putT
  rw [if_neg]
  · rw [List.map_append]; rfl
  · intro q
    rw [List.map_map] at q
    obtain ⟨x, hx, e⟩ := List.mem_map.mp q
    exact h (by rw [← e]; exact hx)
theorem intsF_sp {n : Nat} {pre post : List Int} {x : Int} (e : intsF 0 n = pre ++ x :: post) : x = (pre.length : Int) ∧ pre.length < n := by
  have h : (intsF 0 n)[pre.length]? = some x := by rw [e, List.getElem?_append_right (Nat.le_refl _), Nat.sub_self]; rfl
  obtain ⟨h1, h2⟩ := intsF_get h
  exact ⟨by omega, h1⟩
/-- parts of a list -/
theorem cut_two {α : Type} {xs : List α} {j : Nat} (h : j < xs.length) : (cutX xs none (some (j : Int))).length = j ∧ (cutX xs (some (j : Int)) none).length = xs.length - j ∧ (cutX xs (some ((j : Int) + 1)) none).length = xs.length - (j + 1) := by
  unfold cutX
  rw [show ((j : Int) + 1) = ((j + 1 : Nat) : Int) by omega]
  simp only [HT.sIx_nat, HT.sIx_none, List.length_take, List.length_drop]
  omega
theorem drawN {m : Nat} {k : Int → Prop} (h0 : 0 < m) (h1 : m ≤ 1000) (h : ∀ i : Nat, i < m → k (i : Int)) : drawD (m : Int) k := ⟨by omega, Int.le_trans (show (m : Int) ≤ 1000 by omega) (by decide), fun j j0 j1 => by
  obtain ⟨i, rfl⟩ : ∃ i : Nat, j = i := ⟨j.toNat, by omega⟩
  exact h i (by omega)⟩
/-- where ways meet: what is known there, what follows, and each way -/
theorem joinD_inv {S : Type} {f : (S → Prop) → Prop} {k : S → Prop} (I : S → Prop) (hk : ∀ s, I s → k s) (hf : ∀ k' : S → Prop, (∀ s, I s → k' s) → f k') : joinD f k := hf k hk
theorem optD_of {α : Type} {o : Option α} {A : Prop} {B : α → Prop} (h0 : o = none → A) (h1 : ∀ x, o = some x → B x) : optD o A B := ⟨h0, h1⟩
theorem atI_end {α : Type} {xs : List α} (h : xs ≠ []) : ∃ x, atI xs (-1) = some x ∧ x ∈ xs := by
  have hp := List.length_pos_iff.mpr h
  refine ⟨xs[xs.length - 1], ?_, List.getElem_mem _⟩
  unfold atI ixN
  rw [if_neg (by decide), if_pos (by omega)]
  show xs[(-1 + (xs.length : Int)).toNat]? = _
  rw [show (-1 + (xs.length : Int)).toNat = xs.length - 1 by omega, List.getElem?_eq_getElem (by omega)]
theorem lenS_app (a b : Str) : (a ++ b).length = a.length + b.length := by
  show (a.cps ++ b.cps).size = _
  rw [Array.size_append]
  rfl
end L2

set_option Elab.async false
set_option linter.all false
set_option maxRecDepth 100000
set_option maxHeartbeats 4000000

namespace Held
open PySem PySem.Spec PyProof.Rows L2 PySem.HErr

local macro_rules | `(tactic| ac_rfl) => `(tactic| (repeat (first | with_reducible refine kn_seq ?_ | with_reducible refine kn_asg ?_ | with_reducible refine kn_ret ?_ | with_reducible refine kn_next ?_ | with_reducible refine we_op ?_ | with_reducible refine we_un ?_ | with_reducible refine wa_nil ?_ | with_reducible refine wa_cons ?_ | with_reducible refine we_cb ?_ | with_reducible refine we_callE ?_ | with_reducible refine we_callS ?_ | with_reducible refine we_cI ?_ | with_reducible refine we_cB ?_ | with_reducible refine we_cN ?_ | (with_reducible refine is_cS ?_; refine we_cS (asc_of (by decide)) ?_) | (with_reducible refine is_var ?_; refine we_var rfl ?_) | with_reducible refine wt_test ?_ | with_reducible refine wt_b ?_ | with_reducible refine wt_not ?_ | with_reducible refine we_not ?_ | with_reducible refine we_sl ?_ | with_reducible refine wo_none ?_ | with_reducible refine wo_some ?_ | with_reducible refine wt_yes ?_ | with_reducible refine ops_I0 ?_ | with_reducible refine ops_B0 ?_ | with_reducible refine uns_I ?_ | with_reducible refine ops_eqI ?_ | with_reducible refine ops_neI ?_ | with_reducible refine ops_eqS ?_ | with_reducible refine ops_neS ?_ | with_reducible refine ops_eqB ?_ | with_reducible refine ops_neB ?_ | with_reducible refine ops_inS seq_L ?_ | with_reducible refine ops_inS seq_T ?_ | with_reducible refine ops_ninS seq_L ?_ | with_reducible refine ops_ninS seq_T ?_ | with_reducible refine ops_inI seq_L ?_ | with_reducible refine ops_inI seq_T ?_ | with_reducible refine ops_ix20 ?_ | with_reducible refine ops_ix21 ?_ | with_reducible refine ops_ix30 ?_ | with_reducible refine ops_ix31 ?_ | with_reducible refine ops_ix32 ?_ | with_reducible refine cb_len seq_L ?_ | with_reducible refine cb_len seq_T ?_ | with_reducible refine cb_list seq_L ?_ | with_reducible refine cb_list seq_T ?_ | with_reducible refine cb_tupleL ?_ | with_reducible refine cb_tupleT ?_ | with_reducible refine cb_any ?_ | with_reducible refine cb_all ?_ | with_reducible refine cb_sum ?_ | with_reducible refine cb_int ?_ | with_reducible refine cb_abs ?_ | with_reducible refine we_fld ?_ | with_reducible refine we_dget ?_ | with_reducible refine we_din ?_ | with_reducible refine we_dnin ?_ | with_reducible refine we_met ?_ | with_reducible refine wi_list ?_ | with_reducible refine wi_tup ?_ | with_reducible refine wi_range ?_ | with_reducible refine wi_range2 ?_ | with_reducible refine kn_if ?_ | with_reducible refine kn_raise ?_ | with_reducible refine ⟨_, fldP_taken (by assumption), ?_⟩ | with_reducible refine ⟨_, fldP_given (by assumption), ?_⟩ | with_reducible refine ⟨_, fldP_places (by assumption), ?_⟩ | with_reducible refine ⟨_, fldP_begin (by assumption), ?_⟩ | with_reducible refine ⟨_, fldP_steps (by assumption), ?_⟩ | with_reducible refine ⟨_, _, _, _, dic_D, rfl, ?_⟩ | refine ⟨ins_plan rfl, ?_⟩ | with_reducible refine we_mk ?_ | with_reducible refine we_cT ?_ | with_reducible refine we_cR ?_ | with_reducible refine ops_isO ?_ | with_reducible refine ops_notO ?_ | with_reducible refine ops_isX ?_ | with_reducible refine ops_notX ?_ | with_reducible refine ops_isN ?_ | with_reducible refine ops_notN ?_ | with_reducible refine ops_eqD (by decide) ?_ | with_reducible refine ops_neD (by decide) ?_ | with_reducible apply wt_and | with_reducible apply wt_or | with_reducible refine im_t (fun _ => ?_) | with_reducible refine im_f (fun _ => ?_) | with_reducible refine im_tv (fun _ => ?_) | with_reducible refine im_fv (fun _ => ?_) | with_reducible refine cb_isi ty_L kit_ll ?_ | with_reducible refine cb_isi ty_T kit_tt ?_ | with_reducible refine cb_isi ty_2 kit_tt ?_ | with_reducible refine cb_isi ty_I kit_ii ?_ | with_reducible refine cb_isi ty_I kit_ib ?_ | with_reducible refine cb_isi ty_B kit_bb ?_ | with_reducible refine cb_isi ty_S kit_ss ?_ | exact ⟨rfl, rfl⟩ | with_reducible refine ⟨_, rfl, ?_⟩ | refine ⟨_, _, _, rfl, ?_⟩)))
local macro_rules | `(tactic| bv_omega) => `(tactic| (first | with_reducible refine kn_seq ?_ | with_reducible refine kn_asg ?_ | with_reducible refine kn_ret ?_ | with_reducible refine kn_next ?_ | with_reducible refine we_op ?_ | with_reducible refine we_un ?_ | with_reducible refine wa_nil ?_ | with_reducible refine wa_cons ?_ | with_reducible refine we_cb ?_ | with_reducible refine we_callE ?_ | with_reducible refine we_callS ?_ | with_reducible refine we_cI ?_ | with_reducible refine we_cB ?_ | with_reducible refine we_cN ?_ | (with_reducible refine is_cS ?_; refine we_cS (asc_of (by decide)) ?_) | (with_reducible refine is_var ?_; refine we_var rfl ?_) | with_reducible refine wt_test ?_ | with_reducible refine wt_b ?_ | with_reducible refine wt_not ?_ | with_reducible refine we_not ?_ | with_reducible refine we_sl ?_ | with_reducible refine wo_none ?_ | with_reducible refine wo_some ?_ | with_reducible refine wt_yes ?_ | with_reducible refine ops_I0 ?_ | with_reducible refine ops_B0 ?_ | with_reducible refine uns_I ?_ | with_reducible refine ops_eqI ?_ | with_reducible refine ops_neI ?_ | with_reducible refine ops_eqS ?_ | with_reducible refine ops_neS ?_ | with_reducible refine ops_eqB ?_ | with_reducible refine ops_neB ?_ | with_reducible refine ops_inS seq_L ?_ | with_reducible refine ops_inS seq_T ?_ | with_reducible refine ops_ninS seq_L ?_ | with_reducible refine ops_ninS seq_T ?_ | with_reducible refine ops_inI seq_L ?_ | with_reducible refine ops_inI seq_T ?_ | with_reducible refine ops_ix20 ?_ | with_reducible refine ops_ix21 ?_ | with_reducible refine ops_ix30 ?_ | with_reducible refine ops_ix31 ?_ | with_reducible refine ops_ix32 ?_ | with_reducible refine cb_len seq_L ?_ | with_reducible refine cb_len seq_T ?_ | with_reducible refine cb_list seq_L ?_ | with_reducible refine cb_list seq_T ?_ | with_reducible refine cb_tupleL ?_ | with_reducible refine cb_tupleT ?_ | with_reducible refine cb_any ?_ | with_reducible refine cb_all ?_ | with_reducible refine cb_sum ?_ | with_reducible refine cb_int ?_ | with_reducible refine cb_abs ?_ | with_reducible refine we_fld ?_ | with_reducible refine we_dget ?_ | with_reducible refine we_din ?_ | with_reducible refine we_dnin ?_ | with_reducible refine we_met ?_ | with_reducible refine wi_list ?_ | with_reducible refine wi_tup ?_ | with_reducible refine wi_range ?_ | with_reducible refine wi_range2 ?_ | with_reducible refine kn_if ?_ | with_reducible refine kn_raise ?_ | with_reducible refine ⟨_, fldP_taken (by assumption), ?_⟩ | with_reducible refine ⟨_, fldP_given (by assumption), ?_⟩ | with_reducible refine ⟨_, fldP_places (by assumption), ?_⟩ | with_reducible refine ⟨_, fldP_begin (by assumption), ?_⟩ | with_reducible refine ⟨_, fldP_steps (by assumption), ?_⟩ | with_reducible refine ⟨_, _, _, _, dic_D, rfl, ?_⟩ | refine ⟨ins_plan rfl, ?_⟩ | with_reducible refine we_mk ?_ | with_reducible refine we_cT ?_ | with_reducible refine we_cR ?_ | with_reducible refine ops_isO ?_ | with_reducible refine ops_notO ?_ | with_reducible refine ops_isX ?_ | with_reducible refine ops_notX ?_ | with_reducible refine ops_isN ?_ | with_reducible refine ops_notN ?_ | with_reducible refine ops_eqD (by decide) ?_ | with_reducible refine ops_neD (by decide) ?_ | with_reducible apply wt_and | with_reducible apply wt_or | with_reducible refine im_t (fun _ => ?_) | with_reducible refine im_f (fun _ => ?_) | with_reducible refine im_tv (fun _ => ?_) | with_reducible refine im_fv (fun _ => ?_) | with_reducible refine cb_isi ty_L kit_ll ?_ | with_reducible refine cb_isi ty_T kit_tt ?_ | with_reducible refine cb_isi ty_2 kit_tt ?_ | with_reducible refine cb_isi ty_I kit_ii ?_ | with_reducible refine cb_isi ty_I kit_ib ?_ | with_reducible refine cb_isi ty_B kit_bb ?_ | with_reducible refine cb_isi ty_S kit_ss ?_ | exact ⟨rfl, rfl⟩ | with_reducible refine ⟨_, rfl, ?_⟩ | refine ⟨_, _, _, rfl, ?_⟩))
local macro_rules | `(tactic| nofun) => `(tactic| (repeat (first | with_reducible refine kn_seq ?_ | with_reducible refine kn_asg ?_ | with_reducible refine kn_ret ?_ | with_reducible refine kn_next ?_ | with_reducible refine we_op ?_ | with_reducible refine we_un ?_ | with_reducible refine wa_nil ?_ | with_reducible refine wa_cons ?_ | with_reducible refine we_cb ?_ | with_reducible refine we_callE ?_ | with_reducible refine we_callS ?_ | with_reducible refine we_cI ?_ | with_reducible refine we_cB ?_ | with_reducible refine we_cN ?_ | (with_reducible refine is_cS ?_; refine we_cS (asc_of (by decide)) ?_) | (with_reducible refine is_var ?_; first | refine we_varB rfl ?_ | refine we_varP (by assumption) rfl ?_ | refine we_var rfl ?_) | with_reducible refine wt_test ?_ | with_reducible refine wt_b ?_ | with_reducible refine wt_not ?_ | with_reducible refine we_not ?_ | with_reducible refine we_sl ?_ | with_reducible refine wo_none ?_ | with_reducible refine wo_some ?_ | with_reducible refine wt_yes ?_ | with_reducible refine ops_I0 ?_ | with_reducible refine ops_B0 ?_ | with_reducible refine uns_I ?_ | with_reducible refine ops_eqI ?_ | with_reducible refine ops_neI ?_ | with_reducible refine ops_eqS ?_ | with_reducible refine ops_neS ?_ | with_reducible refine ops_eqB ?_ | with_reducible refine ops_neB ?_ | with_reducible refine ops_inS seq_L ?_ | with_reducible refine ops_inS seq_T ?_ | with_reducible refine ops_ninS seq_L ?_ | with_reducible refine ops_ninS seq_T ?_ | with_reducible refine ops_inI seq_L ?_ | with_reducible refine ops_inI seq_T ?_ | with_reducible refine ops_ix20 ?_ | with_reducible refine ops_ix21 ?_ | with_reducible refine ops_ix30 ?_ | with_reducible refine ops_ix31 ?_ | with_reducible refine ops_ix32 ?_ | with_reducible refine cb_len seq_L ?_ | with_reducible refine cb_len seq_T ?_ | with_reducible refine cb_list seq_L ?_ | with_reducible refine cb_list seq_T ?_ | with_reducible refine cb_tupleL ?_ | with_reducible refine cb_tupleT ?_ | with_reducible refine cb_any ?_ | with_reducible refine cb_all ?_ | with_reducible refine cb_sum ?_ | with_reducible refine cb_int ?_ | with_reducible refine cb_abs ?_ | with_reducible refine we_fld ?_ | with_reducible refine we_dget ?_ | with_reducible refine we_din ?_ | with_reducible refine we_dnin ?_ | with_reducible refine we_met ?_ | with_reducible refine wi_list ?_ | with_reducible refine wi_tup ?_ | with_reducible refine wi_range ?_ | with_reducible refine wi_range2 ?_ | with_reducible refine kn_if ?_ | with_reducible refine kn_raise ?_ | with_reducible refine ⟨_, fldP_taken (by assumption), ?_⟩ | with_reducible refine ⟨_, fldP_given (by assumption), ?_⟩ | with_reducible refine ⟨_, fldP_places (by assumption), ?_⟩ | with_reducible refine ⟨_, fldP_begin (by assumption), ?_⟩ | with_reducible refine ⟨_, fldP_steps (by assumption), ?_⟩ | with_reducible refine ⟨_, _, _, _, dic_D, rfl, ?_⟩ | refine ⟨ins_plan rfl, ?_⟩ | with_reducible refine we_mk ?_ | with_reducible refine we_cT ?_ | with_reducible refine we_cR ?_ | with_reducible refine ops_isO ?_ | with_reducible refine ops_notO ?_ | with_reducible refine ops_isX ?_ | with_reducible refine ops_notX ?_ | with_reducible refine ops_isN ?_ | with_reducible refine ops_notN ?_ | with_reducible refine ops_eqD (by decide) ?_ | with_reducible refine ops_neD (by decide) ?_ | with_reducible apply wt_and | with_reducible apply wt_or | with_reducible refine im_t (fun _ => ?_) | with_reducible refine im_f (fun _ => ?_) | with_reducible refine im_tv (fun _ => ?_) | with_reducible refine im_fv (fun _ => ?_) | with_reducible refine cb_isi ty_L kit_ll ?_ | with_reducible refine cb_isi ty_T kit_tt ?_ | with_reducible refine cb_isi ty_2 kit_tt ?_ | with_reducible refine cb_isi ty_I kit_ii ?_ | with_reducible refine cb_isi ty_I kit_ib ?_ | with_reducible refine cb_isi ty_B kit_bb ?_ | with_reducible refine cb_isi ty_S kit_ss ?_ | exact ⟨rfl, rfl⟩ | with_reducible refine ⟨_, rfl, ?_⟩ | refine ⟨_, _, _, rfl, ?_⟩)))
local macro_rules | `(tactic| and_intros) => `(tactic| (repeat (first | exact .nil | refine .cons (.inr rfl) ?_ | refine .cons (.inl rfl) ?_)))
local macro_rules | `(tactic| subst_vars) => `(tactic| (try dsimp only [List.set, List.eraseIdx, L2.envOf, List.map, Option.map]))
def topS (i : Nat) : Stmt := PySem.Challenge.pw_heldsteps_k07_whole_ratio_quotients.main.body.getD i (.Pass ⟨0, 0, 0, 0⟩)
/-! ## bagB -/
section
variable {P : Program} {w : World} {K : PySem.W.Frag} {mg : Str → Option Value} {base : Heap}
/-! the box of draws of family B -/
def m_draw (m : Int) : DM Int := fun Q _ => drawD m Q
theorem fmod_box {x m : Int} (h : 0 < m) : 0 ≤ x.fmod m ∧ x.fmod m < m := ⟨Int.fmod_nonneg_of_pos _ h, Int.fmod_lt_of_pos _ h⟩
theorem big200 {m : Int} (h0 : 0 < m) (h : m ≤ 10 ^ 40) : m.natAbs < 2 ^ 200 := by
  have e : (10 : Int) ^ 40 < 2 ^ 200 := by decide
  have e2 : ((2 ^ 200 : Nat) : Int) = 2 ^ 200 := by decide
  omega
abbrev s__law_bag : Stmt := topS 12
theorem sc__law_bag : FnScope ["_law_script", "_law_cell"] ["_law_script"] (defScope s__law_bag) := ⟨rfl, rfl, rfl, by decide +kernel, rfl, by decide +kernel, by decide +kernel⟩
theorem ok__law_bag {k : Nat} (B : Bl mg) (F : Src K mg "_law_bag" s__law_bag ["_law_script"]) : Def P w K mg base CX0 (k + 1) "_law_bag" ["_law_script"] (spN (preBag K 4)) := by
  refine F.okN sc__law_bag (fun qs out err ⟨_, h, _⟩ => by rw [h]; rfl) (fun f cdv A outer s H E qs out err hr ⟨ns, e1, e2, e3⟩ => ?_)
  subst e1 e2 e3
  refine ⟨_, (pss_one (ps_ret (pe_lst (pa_cons (pe_lc (own := [("_law_cell", 1)]) (g := gName 1) (by rfl) sc__law_bag.nd (kpi_list (K := K) (pv 0)) (blkOk_by (N := ["_law_script", "_law_cell"]) (sc := defScope s__law_bag) (by decide +kernel)) (fun _ _ _ _ _ => (pg_name (i := 1) sc__law_bag.nd rfl (Or.inl rfl))) (fun _ _ _ _ _ => pts_nil) (fun _ _ _ _ _ => (pe_callTy call_int1 (by rfl) B.int' (by decide +kernel) (pa_cons (pv 1) pa_nil)))) (pa_cons pe_int (pa_cons pe_int (pa_cons pe_int (pa_cons pe_int pa_nil)))))))), fun fr Q hret => ?_⟩
  refine kn_ret (we_bag (m := 4) (wa_cons (we_lcM0 (r := zI) (s := zI) (wi_scr (we_var rfl ⟨ns, rfl, fun e => ⟨_, fun x => x, _, rfl, rfl, e, fun x => tg_name, fun x c => we_cb (wa_cons (we_var rfl (wa_nil (cb_int ⟨rfl, rfl⟩)))), ?_⟩⟩)))))
  refine wa_cons (we_cI (wa_cons (we_cI (wa_cons (we_cI (wa_cons (we_cI (wa_nil ⟨_, [0, 0, 0, 7], rfl, rfl, by decide, fun i h => ?_, fun b l => ?_⟩))))))))
  · cases h
    decide
  · exact hret _ _ ⟨b, l, rfl, rfl⟩ (fun c hc => by rw [List.mem_singleton.mp hc]; rfl) _ [] (by simp)
abbrev s__law_draw : Stmt := topS 13
theorem sc__law_draw : FnScope ["_law_bag_here", "_law_many", "_law_cell", "_law_digit"] ["_law_bag_here", "_law_many"] (defScope s__law_draw) := ⟨rfl, rfl, rfl, by decide +kernel, rfl, by decide +kernel, by decide +kernel⟩
theorem ok__law_draw {k : Nat} (B : Bl mg) (F : Src K mg "_law_draw" s__law_draw ["_law_bag_here", "_law_many"]) : Def P w K mg base CX0 (k + 1) "_law_draw" ["_law_bag_here", "_law_many"] (spC (preK (cBag 4) (preBW (fun x : Int => [iz zI x]) zI m_draw))) := by
  refine F.okKW (fun _ _ => rfl) sc__law_draw (fun _ => rfl) (fun f cdv A outer s H E b l m Q hr h => ⟨_, (pss_cons (ps_asg (pe_op op_add (pe_ix (kix_list (K := K)) (pv 0) pe_int (fun _ _ => rfl)) pe_int) (pg_sub (pv 0) pe_int set_list))
 (C8.pss_cut (ps_if (PW.pt (pw_and (pt_cmpR op_eq (pe_ix (kix_list (K := K)) (pv 0) pe_int (fun _ _ => rfl)) pe_int (nomark _)) (pw_and1 (pt_cmpR op_lt (pe_ix (kix_list (K := K)) (pv 0) pe_int (fun _ _ => rfl)) (pe_callB (kcall_len (K := K)) (by rfl) B.len PySem.boot_len (pa_cons (pe_ix (kix_list (K := K)) (pv 0) pe_int (fun _ _ => rfl)) pa_nil)) (nomark _))))) (pss_cons (ps_asg (pe_ix (kix_list (K := K)) (pe_ix (kix_list (K := K)) (pv 0) pe_int (fun _ _ => rfl)) (pe_ix (kix_list (K := K)) (pv 0) pe_int (fun _ _ => rfl)) (fun _ _ => rfl)) (pg_name (i := 2) sc__law_draw.nd rfl (Or.inl rfl)))
 (pss_cons (ps_asg (pe_op op_add (pe_ix (kix_list (K := K)) (pv 0) pe_int (fun _ _ => rfl)) pe_int) (pg_sub (pv 0) pe_int set_list))
 (pss_one (ps_if (pt_cmpR op_ge (pv 2) (pe_op op_pow pe_int pe_int) (nomark _)) (pss_one (ps_asg (pv 2) (pg_sub (pv 0) pe_int set_list))) (pss_one (ps_asg (pe_op op_modN (pe_callTy call_int1 (by rfl) B.int' (by decide +kernel) (pa_cons (pe_op op_add (pe_op op_mul (pe_ix (kix_list (K := K)) (pv 0) pe_int (fun _ _ => rfl)) pe_int) (pv 2)) pa_nil)) pe_int) (pg_sub (pv 0) pe_int set_list))))))) pss_nil)
 (pss_cons (ps_if (pt_cmpR op_gt (pe_ix (kix_list (K := K)) (pv 0) pe_int (fun _ _ => rfl)) pe_int (nomark _)) (pss_cons (ps_asg (pe_op op_modN (pe_callTy call_int1 (by rfl) B.int' (by decide +kernel) (pa_cons (pe_ix (kix_list (K := K)) (pv 0) pe_int (fun _ _ => rfl)) pa_nil)) (pv 1)) (pg_name (i := 3) sc__law_draw.nd rfl (Or.inl rfl)))
 (pss_cons (ps_asg (pe_op op_fdivW (pe_ix (kix_list (K := K)) (pv 0) pe_int (fun _ _ => rfl)) (pv 1)) (pg_sub (pv 0) pe_int set_list))
 (pss_one (ps_ret (pv 3))))) pss_nil)
 (pss_cons (ps_asg (pe_op op_modN (pe_callTy call_int1 (by rfl) B.int' (by decide +kernel) (pa_cons (pe_op op_add (pe_op op_add (pe_op op_mul (pe_ix (kix_list (K := K)) (pv 0) pe_int (fun _ _ => rfl)) pe_int) (pe_op op_mul (pe_ix (kix_list (K := K)) (pv 0) pe_int (fun _ _ => rfl)) pe_int)) pe_int) pa_nil)) pe_int) (pg_sub (pv 0) pe_int set_list))
 (pss_one (ps_ret (pe_op op_modN (pe_callTy call_int1 (by rfl) B.int' (by decide +kernel) (pa_cons (pe_op op_fdivN (pe_op op_modN (pe_callTy call_int1 (by rfl) B.int' (by decide +kernel) (pa_cons (pe_op op_add (pe_op op_mul (pe_ix (kix_list (K := K)) (pv 0) pe_int (fun _ _ => rfl)) pe_int) (pe_op op_mul (pe_ix (kix_list (K := K)) (pv 0) pe_int (fun _ _ => rfl)) pe_int)) pa_nil)) pe_int) pe_int) pa_nil)) (pv 1)))))))), fun fr Qv hret => ?_⟩)
  obtain ⟨m0, m1, h⟩ := h
  refine kn_bag (j := 0) rfl fun ns is hl hi => ?_
  obtain ⟨i, c, n, r, rfl⟩ : ∃ i c n r, is = [i, c, n, r] := by
    match is, hl with
    | [i, c, n, r], _ => exact ⟨i, c, n, r, rfl⟩
  have hi := hi i rfl
  refine kn_seq (kb_set (i := 0) (m := 2) (j := 0) rfl (we_op (we_op (we_var rfl (we_cI (ob_ix (j := 0) (m := 2) rfl rfl rfl (we_cI (ops_I0 (we_cI ⟨_, _, rfl, rfl, rfl, by simp, rfl, ?_⟩)))))))))
  try dsimp only
  refine kn_cut (fun Γ Θ => ∃ i c r : Int, 0 ≤ i ∧ Γ = [some (zAt b), some (iz zI m), none, none] ∧ Θ = [cBg b l ns [i, c, n + 1, r]]) ?_ ?_
  · refine kn_if (wt_and (b := decide (c = 0)) (c := decide (i < (ns.length : Int))) ?_ (fun _ => ?_) ⟨fun hc => ?_, fun hc => ?_⟩)
    · exact wt_test (we_op (we_op (we_var rfl (we_cI (ob_ix (j := 0) (m := 1) rfl rfl rfl (we_cI (ops_eqI ⟨_, rfl, ⟨rfl, rfl⟩⟩)))))))
    · refine wt_test (we_op (we_op (we_var rfl (we_cI (ob_ix (j := 0) (m := 0) rfl rfl rfl ?_)))))
      refine we_cb (wa_cons (we_op (we_var rfl (we_cI (ob_ix0 (j := 0) rfl (wa_nil ?_))))))
      exact cy_len sy_L fun e => ops_B0 ⟨_, rfl, ⟨rfl, rfl⟩⟩
    · rw [Bool.and_eq_true, decide_eq_true_iff, decide_eq_true_iff] at hc
      obtain ⟨j, rfl⟩ : ∃ j : Nat, i = j := ⟨i.toNat, by omega⟩
      have hj : j < ns.length := by omega
      refine kn_seq (kn_asg (we_op (we_op (we_var rfl (we_cI (ob_ix0 (j := 0) rfl (we_op (we_var rfl (we_cI (ob_ix (j := 0) (m := 0) rfl rfl rfl (oy_ixL (atI_nat (List.getElem?_eq_getElem hj)) ?_)))))))))))
      try dsimp only
      refine kn_seq (kb_set (i := 0) (m := 0) (j := 0) rfl (we_op (we_op (we_var rfl (we_cI (ob_ix (j := 0) (m := 0) rfl rfl rfl (we_cI (ops_I0 (we_cI ⟨_, _, rfl, rfl, rfl, by simp, rfl, ?_⟩)))))))))
      try dsimp only
      refine kn_if (wt_test (we_op (we_var rfl (we_op (we_cI (we_cI (ops_IC ⟨by decide, by decide, by decide⟩ (ops_B0 ⟨_, rfl, ⟨fun _ => ?_, fun _ => ?_⟩⟩))))))))
      · refine kb_set (i := 0) (m := 1) (j := 0) rfl (we_var rfl (we_cI ⟨_, _, rfl, rfl, rfl, by simp, rfl, ?_⟩))
        exact kn_mid ⟨_, by and_intros, _, _, _, by omega, rfl, rfl⟩
      · refine kb_set (i := 0) (m := 3) (j := 0) rfl (we_op (we_cb (wa_cons (we_op (we_op (we_op (we_var rfl (we_cI (ob_ix (j := 0) (m := 3) rfl rfl rfl (we_cI (ops_IC (.inr ⟨by decide, by decide⟩) (we_var rfl (ops_I0 (wa_nil (cb_int (we_cI (ops_IC (C := fun _ j => j ≠ 0) (by decide) (we_cI ⟨_, _, rfl, rfl, rfl, by simp, rfl, ?_⟩))))))))))))))))))
        exact kn_mid ⟨_, by and_intros, _, _, _, by omega, rfl, rfl⟩
    · refine kn_next ?_
      exact kn_mid ⟨_, by and_intros, i, c, r, hi, rfl, rfl⟩
  · rintro Γ Θ ⟨i, c, r, hi, rfl, rfl⟩
    have fin : ∀ {fr' : L2.Fr} {is : List Int} {v : Int}, FrLe fr fr' → is.length = 4 → (∀ i, is[0]? = some i → 0 ≤ i) → 0 ≤ v → v < m → Rt fr' [cBg b l ns is] Qv (iz zI v) := fun {fr' is v} le h1 h2 h3 h4 => rt_bag (j := 0) rfl h1 h2 ((hret.fine le) _ (h v h3 h4) _ (.head _))
    have le0 : FrLe fr fr := ⟨rfl, rfl, Same.refl _, fun a o h => .inl ⟨o, h⟩⟩
    refine kn_seq (kn_if (wt_test (we_op (we_op (we_var rfl (we_cI (ob_ix (j := 0) (m := 1) rfl rfl rfl (we_cI (ops_B0 ⟨_, rfl, ⟨fun hc => ?_, fun hc => ?_⟩⟩)))))))))
    · have hc : c > 0 := of_decide_eq_true hc
      refine kn_seq (kn_asg (we_op (we_cb (wa_cons (we_op (we_var rfl (we_cI (ob_ix (j := 0) (m := 1) rfl rfl rfl (wa_nil (cb_int (we_var rfl (ops_IC (C := fun _ j => j ≠ 0) (by omega) ?_))))))))))))
      try dsimp only
      refine kn_seq (kb_set (i := 0) (m := 1) (j := 0) rfl (we_op (we_op (we_var rfl (we_cI (ob_ix (j := 0) (m := 1) rfl rfl rfl (we_var rfl (ops_IC (wide_div (b := 200) m0 (big200 m0 m1) (by decide) (by decide)) (we_cI ⟨_, _, rfl, rfl, rfl, by simp, rfl, ?_⟩)))))))))
      try dsimp only
      refine kn_ret (we_var rfl ?_)
      have fb := fmod_box (x := c) m0
      exact fin le0 rfl (fun j hj => by cases hj; exact hi) fb.1 fb.2
    · refine kn_next ?_
      try dsimp only
      refine kn_seq (kb_set (i := 0) (m := 3) (j := 0) rfl (we_op (we_cb (wa_cons (we_op (we_op (we_op (we_op (we_var rfl (we_cI (ob_ix (j := 0) (m := 3) rfl rfl rfl (we_cI (ops_IC (.inr ⟨by decide, by decide⟩) (we_op (we_op (we_var rfl (we_cI (ob_ix (j := 0) (m := 2) rfl rfl rfl (we_cI (ops_IC (.inr ⟨by decide, by decide⟩) (ops_I0 (we_cI (ops_I0 (wa_nil (cb_int (we_cI (ops_IC (C := fun _ j => j ≠ 0) (by decide) (we_cI ⟨_, _, rfl, rfl, rfl, by simp, rfl, ?_⟩))))))))))))))))))))))))))))
      try dsimp only
      refine kn_ret (we_op (we_cb (wa_cons (we_op (we_op (we_cb (wa_cons (we_op (we_op (we_op (we_var rfl (we_cI (ob_ix (j := 0) (m := 3) rfl rfl rfl (we_cI (ops_IC (.inr ⟨by decide, by decide⟩) (we_op (we_op (we_var rfl (we_cI (ob_ix (j := 0) (m := 2) rfl rfl rfl (we_cI (ops_IC (.inr ⟨by decide, by decide⟩) (ops_I0 (wa_nil (cb_int (we_cI (ops_IC (C := fun _ j => j ≠ 0) (by decide) (we_cI (ops_IC ⟨by decide, by decide⟩ (wa_nil (cb_int (we_var rfl (ops_IC (C := fun _ j => j ≠ 0) (by omega) ?_)))))))))))))))))))))))))))))))))
      have fb := fmod_box (x := Int.fdiv (Int.fmod (Int.fmod (r * 48271 + (n + 1) * 69621 + 11) 2147483647 * 16807 + (n + 1) * 40692) 2147483629) 5) m0
      exact fin le0 rfl (fun j hj => by cases hj; exact hi) fb.1 fb.2
end

/-! ## ratio -/
abbrev zRatio (C_Ratio : Addr) : Rep (Int × Int) := zIn C_Ratio fun x => [("top", iz zI x.1), ("bottom", iz zI x.2)]
section
variable {P : Program} {w : World} {K : PySem.W.Frag} {mg : Str → Option Value} {base : Heap}
abbrev s_common_divisor : Stmt := topS 7
theorem sc_common_divisor : FnScope ["first", "second", "large", "small"] ["first", "second"] (defScope s_common_divisor) := ⟨rfl, rfl, rfl, by decide +kernel, rfl, by decide +kernel, by decide +kernel⟩
def m_common_divisor (p_first : Int) (p_second : Int) : DM Int := fun Q X =>
  whileD ((if p_first < 0 then -p_first else p_first), (if p_second < 0 then -p_second else p_second)) (fun s1 nx bk =>
  ifD (!decide (s1.2 = (0 : Int))) (
  s1.2 ≠ 0 ∧
  nx (s1.2, (Int.fmod s1.1 s1.2))) (bk s1)) (fun s1 =>
  Q s1.1)
theorem ok_common_divisor {k : Nat} {cs : EK → Addr} (B : Bl mg) 
    (F : Src K mg "common_divisor" s_common_divisor ["first", "second"]) : Def P w K mg base CX0 (k + 1) "common_divisor" ["first", "second"] (spA (preW (erW cs) (fun x : Int × Int => [iz zI x.1, iz zI x.2]) zI (fun x => m_common_divisor x.1 x.2))) := by
  refine F.okW sc_common_divisor (fun _ => rfl) (fun f cdv A outer s H E x Q X hr h => ⟨_, (pss_cons (ps_par (i := 2) (j := 3) (by rfl) sc_common_divisor.nd rfl rfl (by decide) rfl rfl (pa_cons (pe_callB call_abs (by rfl) B.abs (by decide +kernel) (pa_cons (pv 0) pa_nil)) (pa_cons (pe_callB call_abs (by rfl) B.abs (by decide +kernel) (pa_cons (pv 1) pa_nil)) pa_nil)) (by rfl))
 (pss_cons (ps_while PassesOwn.never (pt_cmpR op_ne (pv 3) pe_int (nomark _)) (pss_one (ps_par (i := 2) (j := 3) (by rfl) sc_common_divisor.nd rfl rfl (by decide) rfl rfl (pa_cons (pv 3) (pa_cons (pe_op op_modN (pv 2) (pv 3)) pa_nil)) (by rfl))))
 (pss_one (ps_ret (pv 2))))), fun fr Qv hret => ?_⟩)
  obtain ⟨p_first, p_second⟩ := x
  replace h : m_common_divisor p_first p_second Q X := h
  unfold m_common_divisor at h
  refine kn_seq (kn_par (i := 2) (j := 3) (wa_cons (we_cb (wa_cons (we_var rfl (wa_nil (cb_abs (wa_cons (we_cb (wa_cons (we_var rfl (wa_nil (cb_abs (wa_nil (⟨_, _, rfl, ?_⟩)))))))))))))))
  try dsimp only
  refine kn_seq (kn_whileW (S := Int × Int) (fun s1 => [some (iz zI p_first), some (iz zI p_second), some (iz zI s1.1), some (iz zI s1.2)]) (fun s1 => []) ((if p_first < 0 then -p_first else p_first), (if p_second < 0 then -p_second else p_second)) h (by and_intros) rfl (fun s1 nx M hnx hbk h => ?_) (fun s1 h => ?_))
  · refine wt_test (we_op (we_var rfl (we_cI (ops_neI (⟨_, rfl, ⟨fun hc => ?_, fun hc => hbk _ _ _ (h.2 hc) (by and_intros) rfl⟩⟩)))))
    have h := h.1 hc
    refine kn_par (i := 2) (j := 3) (wa_cons (we_var rfl (wa_cons (we_op (we_var rfl (we_var rfl ?_))))))
    obtain ⟨g2, h⟩ := h
    refine ops_IC (C := fun _ j => j ≠ 0) g2 (wa_nil (⟨_, _, rfl, ?_⟩))
    exact hnx (s1.2, (Int.fmod s1.1 s1.2)) _ _ h (by and_intros) rfl
  try dsimp only
  refine kn_ret (we_var rfl ?_)
  exact hret _ h _
abbrev s_Ratio___init__ : Stmt := inClass (topS 10) 0
theorem sc_Ratio___init__ : FnScope ["self", "top", "bottom", "divisor"] ["self", "top", "bottom"] (defScope s_Ratio___init__) := ⟨rfl, rfl, rfl, by decide +kernel, rfl, by decide +kernel, by decide +kernel⟩
def m_Ratio___init__ (p_top : Int) (p_bottom : Int) : DM (Int × Int) := fun Q X =>
  ifD (decide (p_bottom = (0 : Int))) (
  X (.badNumber (0 : Int))) (
  m_common_divisor p_top p_bottom (fun v1 =>
  joinD (fun j3 =>
  ifD (decide (p_bottom < (0 : Int))) (
  ∀ divisor4, divisor4 = (-v1) →
  j3 divisor4) (
  j3 v1)) (fun s2 : Int =>
  CDivZ p_top s2 ∧
  CDivZ p_bottom s2 ∧
  Q ((Int.fdiv p_top s2), (Int.fdiv p_bottom s2)))) noX)
theorem ok_Ratio___init__ {k : Nat} {cs : EK → Addr} {f_BadNumber C_Ratio : Addr} (B : Bl mg) (T_Ratio : ClsA K mg C_Ratio "Ratio" ["top", "bottom"]) (D_common_divisor : Def P w K mg base CX0 k "common_divisor" ["first", "second"] (spA (preW (erW cs) (fun x : Int × Int => [iz zI x.1, iz zI x.2]) zI (fun x => m_common_divisor x.1 x.2)))) (X_BadNumber : ErrTxt P K mg false "BadNumber" (cs .badNumber) f_BadNumber ["number"])
    (F : SrcI K C_Ratio "Ratio.__init__" s_Ratio___init__ ["self", "top", "bottom"]) : DefI P w K mg base (L2.CX P w) (k + 1) C_Ratio ["self", "top", "bottom"] (spI C_Ratio (preW (erW cs) (fun x : Int × Int => [iz zI x.1, iz zI x.2]) (zRatio C_Ratio) (fun x => m_Ratio___init__ x.1 x.2))) := by
  refine F.okW sc_Ratio___init__ (fun _ => rfl) (fun f cdv A outer s H E x Q X hr h => ⟨_, (pss_cons (ps_if (pt_cmpR op_eq (pv 2) pe_int (nomark _)) (pss_one (ps_raiseE rfl X_BadNumber hr (takes_of rfl rfl rfl rfl) (pa_cons pe_int pa_nil))) pss_nil)
 (pss_cons (ps_asg (pe_def D_common_divisor hr pass0 (pa_cons (pv 1) (pa_cons (pv 2) pa_nil))) (pg_name (i := 3) sc_Ratio___init__.nd rfl (Or.inl rfl)))
 (C8.pss_cut (ps_if (pt_cmpR op_lt (pv 2) pe_int (nomark _)) (pss_one (ps_asg (pe_un un_neg (pv 3)) (pg_name (i := 3) sc_Ratio___init__.nd rfl (Or.inl rfl)))) pss_nil)
 (pss_cons (kps_fld (K := K) (pv 0) (pe_op op_fdivZ (pv 1) (pv 3)))
 (pss_one (kps_fld (K := K) (pv 0) (pe_op op_fdivZ (pv 2) (pv 3)))))))), fun fr x0 dx0 Qn rt hinit hrse => ?_⟩)
  obtain ⟨p_top, p_bottom⟩ := x
  replace h : m_Ratio___init__ p_top p_bottom Q X := h
  unfold m_Ratio___init__ at h
  refine kn_seq (kn_if (wt_test (we_op (we_var rfl (we_cI (ops_eqI (⟨_, rfl, ⟨fun hc => ?_, fun hc => ?_⟩⟩)))))))
  · have h := h.1 hc
    refine kn_raiseY (wa_cons (we_cI (wa_nil ?_)))
    exact ⟨rfl, (fun h => nomatch h), hrse _ h _ _⟩
  · have h := h.2 hc
    refine kn_next ?_
    try dsimp only
    refine kn_seq (kn_asg (i := 3) (we_callE (wa_cons (we_var rfl (wa_cons (we_var rfl (wa_nil ?_)))))))
    refine sps_W0 (p_top, p_bottom) h (fun v1 h => ?_)
    try dsimp only
    refine kn_cutW (S := Int) (fun s2 => [some (zAt x0), some (iz zI p_top), some (iz zI p_bottom), some (iz zI s2)]) (fun s2 => [cI x0 C_Ratio dx0 []]) h (fun M hjn h => ?_) (fun s2 h => ?_)
    · refine kn_if (wt_test (we_op (we_var rfl (we_cI (ops_B0 (⟨_, rfl, ⟨fun hc => ?_, fun hc => ?_⟩⟩))))))
      · have h := h.1 hc
        refine kn_asgL (i := 3) (r := zI) (we_un (we_var rfl (uns_I (⟨_, rfl, fun divisor4 edivisor4 => ?_⟩))))
        have h := h divisor4 edivisor4
        exact hjn divisor4 _ _ h (by and_intros) rfl
      · have h := h.2 hc
        refine kn_next ?_
        exact hjn v1 _ _ h (by and_intros) rfl
    try dsimp only
    refine kn_seq (kn_putF T_Ratio.toClsF (by decide) (we_op (we_var rfl (we_var rfl ?_))))
    obtain ⟨g5, h⟩ := h
    refine ops_IC g5 (we_var rfl (⟨_, _, _, 0, rfl, rfl, Nat.le_of_ble_eq_true rfl, ?_⟩))
    try dsimp only
    refine kn_putF T_Ratio.toClsF (by decide) (we_op (we_var rfl (we_var rfl ?_)))
    obtain ⟨g6, h⟩ := h
    refine ops_IC g6 (we_var rfl (⟨_, _, _, 0, rfl, rfl, Nat.le_of_ble_eq_true rfl, ?_⟩))
    exact hinit _ h _ _ 0 _ rfl
abbrev s_Ratio___str__ : Stmt := inClass (topS 10) 19
theorem sc_Ratio___str__ : FnScope ["self"] ["self"] (defScope s_Ratio___str__) := ⟨rfl, rfl, rfl, by decide +kernel, rfl, by decide +kernel, by decide +kernel⟩
def m_Ratio___str__ (p_self : (Int × Int)) : DM Str := fun Q X =>
  ifD (decide (p_self.2 = (1 : Int))) (
  CStr p_self.1 ∧
  Q (numS p_self.1)) (
  CStr p_self.1 ∧
  (Str.empty).length + ((numS p_self.1)).length ≤ big ∧
  ((Str.empty ++ (numS p_self.1))).length + (("/" : Str)).length ≤ big ∧
  CStr p_self.2 ∧
  (((Str.empty ++ (numS p_self.1)) ++ ("/" : Str))).length + ((numS p_self.2)).length ≤ big ∧
  ((((Str.empty ++ (numS p_self.1)) ++ ("/" : Str)) ++ (numS p_self.2))).length ≤ big ∧
  Q (((Str.empty ++ (numS p_self.1)) ++ ("/" : Str)) ++ (numS p_self.2)))
theorem ok_Ratio___str__ {k : Nat} {cs : EK → Addr} {C_Ratio : Addr} (B : Bl mg) (T_Ratio : ClsA K mg C_Ratio "Ratio" ["top", "bottom"])
    (F : SrcM K C_Ratio "__str__" "Ratio.__str__" s_Ratio___str__ ["self"]) : DefM P w K mg base CX0 (k + 1) C_Ratio "__str__" ["self"] (spA (preW (erW cs) (fun x : (Int × Int) => [iz (zRatio C_Ratio) x]) yS (fun x => m_Ratio___str__ x))) := by
  refine F.okW sc_Ratio___str__ (fun _ => rfl) (fun f cdv A outer s H E p_self Q X hr h => ⟨_, (pss_cons (ps_if (pt_cmpR op_eq (kpe_fld (K := K) (pv 0)) pe_int (nomark _)) (pss_one (ps_ret (pe_callTy call_str_int (by rfl) B.str' (by decide +kernel) (pa_cons (kpe_fld (K := K) (pv 0)) pa_nil)))) pss_nil)
 (pss_one (ps_ret (pe_joined (.cons (pe_fmt (kpe_fld (K := K) (pv 0))) (.cons pe_str (.cons (pe_fmt (kpe_fld (K := K) (pv 0))) .nil))))))), fun fr Qv hret => ?_⟩)
  replace h : m_Ratio___str__ p_self Q X := h
  unfold m_Ratio___str__ at h
  refine kn_seq (kn_if (wt_test (we_op (we_fld (we_var rfl (⟨_, fld_in T_Ratio.toClsF (by decide) rfl, we_cI (ops_eqI (⟨_, rfl, ⟨fun hc => ?_, fun hc => ?_⟩⟩))⟩))))))
  · have h := h.1 hc
    refine kn_ret (we_cb (wa_cons (we_fld (we_var rfl (⟨_, fld_in T_Ratio.toClsF (by decide) rfl, wa_nil ?_⟩)))))
    obtain ⟨g1, h⟩ := h
    refine cy_str g1 ?_
    exact hret _ h _
  · have h := h.2 hc
    refine kn_next ?_
    try dsimp only
    refine kn_ret (we_fs (wj_cons (we_fmtI (we_fld (we_var rfl (⟨_, fld_in T_Ratio.toClsF (by decide) rfl, ?_⟩))))))
    obtain ⟨g2, h⟩ := h
    refine ⟨_, rfl, g2, ?_⟩
    obtain ⟨g3, h⟩ := h
    refine ⟨_, rfl, g3, wj_cons (we_cSy (z := "/") (asc_of (by decide)) (by decide) ?_)⟩
    obtain ⟨g4, h⟩ := h
    refine ⟨_, rfl, g4, wj_cons (we_fmtI (we_fld (we_var rfl (⟨_, fld_in T_Ratio.toClsF (by decide) rfl, ?_⟩))))⟩
    obtain ⟨g5, h⟩ := h
    refine ⟨_, rfl, g5, ?_⟩
    obtain ⟨g6, h⟩ := h
    refine ⟨_, rfl, g6, ?_⟩
    obtain ⟨g7, h⟩ := h
    refine wj_nil (⟨g7, ?_⟩)
    exact hret _ h _
end

/-! ## ratops -/
section
variable {P : Program} {w : World} {K : PySem.W.Frag} {mg : Str → Option Value} {base : Heap}
abbrev s_terms : Stmt := topS 8
theorem sc_terms : FnScope ["value"] ["value"] (defScope s_terms) := ⟨rfl, rfl, rfl, by decide +kernel, rfl, by decide +kernel, by decide +kernel⟩
def m_terms (p_value : ((Int × Int) ⊕ Int)) : DM (Int × Int) := fun Q X =>
  uD p_value (fun value1 =>
  Q (value1.1, value1.2)) (fun value2 =>
  Q (value2, (1 : Int)))
theorem ok_terms {k : Nat} {cs : EK → Addr} {C_Ratio : Addr} (B : Bl mg) (T_Ratio : ClsA K mg C_Ratio "Ratio" ["top", "bottom"])
    (F : Src K mg "terms" s_terms ["value"]) : Def P w K mg base CX0 (k + 1) "terms" ["value"] (spA (preW (erW cs) (fun x : ((Int × Int) ⊕ Int) => [iz (yU (zRatio C_Ratio) zI) x]) (z2 zI zI) (fun x => m_terms x))) := by
  refine F.okW sc_terms (fun _ => rfl) (fun f cdv A outer s H E p_value Q X hr h => ⟨_, (pss_cons (ps_if (pt_val (pe_callB (kcall_isi (K := K)) (by rfl) B.isinstance (by decide +kernel) (pa_cons (pv 0) (pa_cons (pe_glo T_Ratio.glo) pa_nil)))) (pss_one (ps_ret (pe_tup (pa_cons (kpe_fld (K := K) (pv 0)) (pa_cons (kpe_fld (K := K) (pv 0)) pa_nil))))) pss_nil)
 (pss_one (ps_ret (pe_tup (pa_cons (pv 0) (pa_cons pe_int pa_nil)))))), fun fr Qv hret => ?_⟩)
  replace h : m_terms p_value Q X := h
  unfold m_terms at h
  refine kn_seq (kn_if (wt_b (we_cb (wa_cons (we_var rfl (wa_cons (we_cA (wa_nil (cb_isUI T_Ratio.io T_Ratio.k1 T_Ratio.k2 (⟨_, rfl, uK h (fun value1 evalue1 h => ?_) (fun value2 evalue2 h => ?_)⟩))))))))))
  · revert h; (first | subst evalue1 | rw [evalue1]); intro h
    refine kn_ret (we_tup (wa_cons (we_fld (we_var rfl (⟨_, fld_in T_Ratio.toClsF (by decide) rfl, wa_cons (we_fld (we_var rfl (⟨_, fld_in T_Ratio.toClsF (by decide) rfl, wa_nil (⟨Nat.le_of_ble_eq_true rfl, iz (z2 zI zI) (value1.1, value1.2), tr2, ?_⟩)⟩)))⟩)))))
    exact hret _ h _
  · revert h; (first | subst evalue2 | rw [evalue2]); intro h
    refine kn_next ?_
    try dsimp only
    refine kn_ret (we_tup (wa_cons (we_var rfl (wa_cons (we_cI (wa_nil (⟨Nat.le_of_ble_eq_true rfl, iz (z2 zI zI) (value2, (1 : Int)), tr2, ?_⟩)))))))
    exact hret _ h _
abbrev s_Ratio___add__ : Stmt := inClass (topS 10) 3
theorem sc_Ratio___add__ : FnScope ["self", "other", "top", "bottom"] ["self", "other"] (defScope s_Ratio___add__) := ⟨rfl, rfl, rfl, by decide +kernel, rfl, by decide +kernel, by decide +kernel⟩
def m_Ratio___add__ (p_self : (Int × Int)) (p_other : ((Int × Int) ⊕ Int)) : DM (Int × Int) := fun Q X =>
  m_terms p_other (fun v1 =>
  CMulW p_self.1 v1.2 ∧
  CMulW v1.1 p_self.2 ∧
  CMulW p_self.2 v1.2 ∧
  m_Ratio___init__ ((p_self.1 * v1.2) + (v1.1 * p_self.2)) (p_self.2 * v1.2) (fun v5 =>
  Q v5) X) noX
theorem ok_Ratio___add__ {k : Nat} {cs : EK → Addr} {C_Ratio : Addr} (B : Bl mg) (T_Ratio : ClsA K mg C_Ratio "Ratio" ["top", "bottom"]) (D_terms : Def P w K mg base CX0 (k + 1) "terms" ["value"] (spA (preW (erW cs) (fun x : ((Int × Int) ⊕ Int) => [iz (yU (zRatio C_Ratio) zI) x]) (z2 zI zI) (fun x => m_terms x)))) (m_Ratio : mg "Ratio" = some (.ref C_Ratio)) (DI_Ratio : DefI P w K mg base (L2.CX P w) k C_Ratio ["self", "top", "bottom"] (spI C_Ratio (preW (erW cs) (fun x : Int × Int => [iz zI x.1, iz zI x.2]) (zRatio C_Ratio) (fun x => m_Ratio___init__ x.1 x.2))))
    (F : SrcM K C_Ratio "__add__" "Ratio.__add__" s_Ratio___add__ ["self", "other"]) : DefM P w K mg base (L2.CX P w) (k + 2) C_Ratio "__add__" ["self", "other"] (spA (preW (erW cs) (fun x : (Int × Int) × ((Int × Int) ⊕ Int) => [iz (zRatio C_Ratio) x.1, iz (yU (zRatio C_Ratio) zI) x.2]) (zRatio C_Ratio) (fun x => m_Ratio___add__ x.1 x.2))) := by
  refine F.okWX sc_Ratio___add__ (fun _ => rfl) (fun f cdv A outer s H E x Q X hr h => ⟨_, (pss_cons (ps_asg (pe_def D_terms hr pass0 (pa_cons (pv 1) pa_nil)) (kpg_tup (K := K) (n := 2) rfl (pgs_cons (pg_name (i := 2) sc_Ratio___add__.nd rfl (Or.inl rfl)) (pgs_cons (pg_name (i := 3) sc_Ratio___add__.nd rfl (Or.inl rfl)) pgs_nil))))
 (pss_one (ps_ret (pe_mkD DI_Ratio m_Ratio hr (fun σ => Passes.at (passes_call (takes_of rfl rfl rfl rfl) (fun _ _ _ _ h => h)) σ) (pa_cons (pe_op op_add (pe_op op_mulW (kpe_fld (K := K) (pv 0)) (pv 3)) (pe_op op_mulW (pv 2) (kpe_fld (K := K) (pv 0)))) (pa_cons (pe_op op_mulW (kpe_fld (K := K) (pv 0)) (pv 3)) pa_nil)))))), fun fr Qv hret hrse => ?_⟩)
  obtain ⟨p_self, p_other⟩ := x
  replace h : m_Ratio___add__ p_self p_other Q X := h
  unfold m_Ratio___add__ at h
  refine kn_seq (kn_asgT (we_callE (wa_cons (we_var rfl (wa_nil ?_)))))
  refine sps_W0 p_other h (fun v1 h => ?_)
  refine ⟨_, _, tg2 (by decide), ?_⟩
  try dsimp only
  refine kn_ret (we_mkP (wa_cons (we_op (we_op (we_fld (we_var rfl (⟨_, fld_in T_Ratio.toClsF (by decide) rfl, we_var rfl ?_⟩)))))))
  obtain ⟨g2, h⟩ := h
  refine ops_IC g2 (we_op (we_var rfl (we_fld (we_var rfl (⟨_, fld_in T_Ratio.toClsF (by decide) rfl, ?_⟩)))))
  obtain ⟨g3, h⟩ := h
  refine ops_IC g3 (ops_I0 (wa_cons (we_op (we_fld (we_var rfl (⟨_, fld_in T_Ratio.toClsF (by decide) rfl, we_var rfl ?_⟩))))))
  obtain ⟨g4, h⟩ := h
  refine ops_IC g4 (wa_nil ?_)
  refine mkWE hrse (((p_self.1 * v1.2) + (v1.1 * p_self.2)), (p_self.2 * v1.2)) h (fun v5 h => ?_)
  exact hret _ h _
abbrev s_Ratio___radd__ : Stmt := inClass (topS 10) 4
theorem sc_Ratio___radd__ : FnScope ["self", "other"] ["self", "other"] (defScope s_Ratio___radd__) := ⟨rfl, rfl, rfl, by decide +kernel, rfl, by decide +kernel, by decide +kernel⟩
def m_Ratio___radd__ (p_self : (Int × Int)) (p_other : Int) : DM (Int × Int) := fun Q X =>
  CMulW p_other p_self.2 ∧
  m_Ratio___init__ ((p_other * p_self.2) + p_self.1) p_self.2 (fun v2 =>
  Q v2) X
theorem ok_Ratio___radd__ {k : Nat} {cs : EK → Addr} {C_Ratio : Addr} (B : Bl mg) (T_Ratio : ClsA K mg C_Ratio "Ratio" ["top", "bottom"]) (m_Ratio : mg "Ratio" = some (.ref C_Ratio)) (DI_Ratio : DefI P w K mg base (L2.CX P w) k C_Ratio ["self", "top", "bottom"] (spI C_Ratio (preW (erW cs) (fun x : Int × Int => [iz zI x.1, iz zI x.2]) (zRatio C_Ratio) (fun x => m_Ratio___init__ x.1 x.2))))
    (F : SrcM K C_Ratio "__radd__" "Ratio.__radd__" s_Ratio___radd__ ["self", "other"]) : DefM P w K mg base (L2.CX P w) (k + 2) C_Ratio "__radd__" ["self", "other"] (spA (preW (erW cs) (fun x : (Int × Int) × Int => [iz (zRatio C_Ratio) x.1, iz zI x.2]) (zRatio C_Ratio) (fun x => m_Ratio___radd__ x.1 x.2))) := by
  refine F.okWX sc_Ratio___radd__ (fun _ => rfl) (fun f cdv A outer s H E x Q X hr h => ⟨_, (pss_one (ps_ret (pe_mkD DI_Ratio m_Ratio hr (fun σ => Passes.at (passes_call (takes_of rfl rfl rfl rfl) (fun _ _ _ _ h => h)) σ) (pa_cons (pe_op op_add (pe_op op_mulW (pv 1) (kpe_fld (K := K) (pv 0))) (kpe_fld (K := K) (pv 0))) (pa_cons (kpe_fld (K := K) (pv 0)) pa_nil))))), fun fr Qv hret hrse => ?_⟩)
  obtain ⟨p_self, p_other⟩ := x
  replace h : m_Ratio___radd__ p_self p_other Q X := h
  unfold m_Ratio___radd__ at h
  refine kn_ret (we_mkP (wa_cons (we_op (we_op (we_var rfl (we_fld (we_var rfl (⟨_, fld_in T_Ratio.toClsF (by decide) rfl, ?_⟩))))))))
  obtain ⟨g1, h⟩ := h
  refine ops_IC g1 (we_fld (we_var rfl (⟨_, fld_in T_Ratio.toClsF (by decide) rfl, ops_I0 (wa_cons (we_fld (we_var rfl (⟨_, fld_in T_Ratio.toClsF (by decide) rfl, wa_nil ?_⟩))))⟩)))
  refine mkWE hrse (((p_other * p_self.2) + p_self.1), p_self.2) h (fun v2 h => ?_)
  exact hret _ h _
abbrev s_Ratio___sub__ : Stmt := inClass (topS 10) 5
theorem sc_Ratio___sub__ : FnScope ["self", "other", "top", "bottom"] ["self", "other"] (defScope s_Ratio___sub__) := ⟨rfl, rfl, rfl, by decide +kernel, rfl, by decide +kernel, by decide +kernel⟩
def m_Ratio___sub__ (p_self : (Int × Int)) (p_other : ((Int × Int) ⊕ Int)) : DM (Int × Int) := fun Q X =>
  m_terms p_other (fun v1 =>
  CMulW p_self.1 v1.2 ∧
  CMulW v1.1 p_self.2 ∧
  CMulW p_self.2 v1.2 ∧
  m_Ratio___init__ ((p_self.1 * v1.2) - (v1.1 * p_self.2)) (p_self.2 * v1.2) (fun v5 =>
  Q v5) X) noX
theorem ok_Ratio___sub__ {k : Nat} {cs : EK → Addr} {C_Ratio : Addr} (B : Bl mg) (T_Ratio : ClsA K mg C_Ratio "Ratio" ["top", "bottom"]) (D_terms : Def P w K mg base CX0 (k + 1) "terms" ["value"] (spA (preW (erW cs) (fun x : ((Int × Int) ⊕ Int) => [iz (yU (zRatio C_Ratio) zI) x]) (z2 zI zI) (fun x => m_terms x)))) (m_Ratio : mg "Ratio" = some (.ref C_Ratio)) (DI_Ratio : DefI P w K mg base (L2.CX P w) k C_Ratio ["self", "top", "bottom"] (spI C_Ratio (preW (erW cs) (fun x : Int × Int => [iz zI x.1, iz zI x.2]) (zRatio C_Ratio) (fun x => m_Ratio___init__ x.1 x.2))))
    (F : SrcM K C_Ratio "__sub__" "Ratio.__sub__" s_Ratio___sub__ ["self", "other"]) : DefM P w K mg base (L2.CX P w) (k + 2) C_Ratio "__sub__" ["self", "other"] (spA (preW (erW cs) (fun x : (Int × Int) × ((Int × Int) ⊕ Int) => [iz (zRatio C_Ratio) x.1, iz (yU (zRatio C_Ratio) zI) x.2]) (zRatio C_Ratio) (fun x => m_Ratio___sub__ x.1 x.2))) := by
  refine F.okWX sc_Ratio___sub__ (fun _ => rfl) (fun f cdv A outer s H E x Q X hr h => ⟨_, (pss_cons (ps_asg (pe_def D_terms hr pass0 (pa_cons (pv 1) pa_nil)) (kpg_tup (K := K) (n := 2) rfl (pgs_cons (pg_name (i := 2) sc_Ratio___sub__.nd rfl (Or.inl rfl)) (pgs_cons (pg_name (i := 3) sc_Ratio___sub__.nd rfl (Or.inl rfl)) pgs_nil))))
 (pss_one (ps_ret (pe_mkD DI_Ratio m_Ratio hr (fun σ => Passes.at (passes_call (takes_of rfl rfl rfl rfl) (fun _ _ _ _ h => h)) σ) (pa_cons (pe_op op_sub (pe_op op_mulW (kpe_fld (K := K) (pv 0)) (pv 3)) (pe_op op_mulW (pv 2) (kpe_fld (K := K) (pv 0)))) (pa_cons (pe_op op_mulW (kpe_fld (K := K) (pv 0)) (pv 3)) pa_nil)))))), fun fr Qv hret hrse => ?_⟩)
  obtain ⟨p_self, p_other⟩ := x
  replace h : m_Ratio___sub__ p_self p_other Q X := h
  unfold m_Ratio___sub__ at h
  refine kn_seq (kn_asgT (we_callE (wa_cons (we_var rfl (wa_nil ?_)))))
  refine sps_W0 p_other h (fun v1 h => ?_)
  refine ⟨_, _, tg2 (by decide), ?_⟩
  try dsimp only
  refine kn_ret (we_mkP (wa_cons (we_op (we_op (we_fld (we_var rfl (⟨_, fld_in T_Ratio.toClsF (by decide) rfl, we_var rfl ?_⟩)))))))
  obtain ⟨g2, h⟩ := h
  refine ops_IC g2 (we_op (we_var rfl (we_fld (we_var rfl (⟨_, fld_in T_Ratio.toClsF (by decide) rfl, ?_⟩)))))
  obtain ⟨g3, h⟩ := h
  refine ops_IC g3 (ops_I0 (wa_cons (we_op (we_fld (we_var rfl (⟨_, fld_in T_Ratio.toClsF (by decide) rfl, we_var rfl ?_⟩))))))
  obtain ⟨g4, h⟩ := h
  refine ops_IC g4 (wa_nil ?_)
  refine mkWE hrse (((p_self.1 * v1.2) - (v1.1 * p_self.2)), (p_self.2 * v1.2)) h (fun v5 h => ?_)
  exact hret _ h _
abbrev s_Ratio___rsub__ : Stmt := inClass (topS 10) 6
theorem sc_Ratio___rsub__ : FnScope ["self", "other"] ["self", "other"] (defScope s_Ratio___rsub__) := ⟨rfl, rfl, rfl, by decide +kernel, rfl, by decide +kernel, by decide +kernel⟩
def m_Ratio___rsub__ (p_self : (Int × Int)) (p_other : Int) : DM (Int × Int) := fun Q X =>
  CMulW p_other p_self.2 ∧
  m_Ratio___init__ ((p_other * p_self.2) - p_self.1) p_self.2 (fun v2 =>
  Q v2) X
theorem ok_Ratio___rsub__ {k : Nat} {cs : EK → Addr} {C_Ratio : Addr} (B : Bl mg) (T_Ratio : ClsA K mg C_Ratio "Ratio" ["top", "bottom"]) (m_Ratio : mg "Ratio" = some (.ref C_Ratio)) (DI_Ratio : DefI P w K mg base (L2.CX P w) k C_Ratio ["self", "top", "bottom"] (spI C_Ratio (preW (erW cs) (fun x : Int × Int => [iz zI x.1, iz zI x.2]) (zRatio C_Ratio) (fun x => m_Ratio___init__ x.1 x.2))))
    (F : SrcM K C_Ratio "__rsub__" "Ratio.__rsub__" s_Ratio___rsub__ ["self", "other"]) : DefM P w K mg base (L2.CX P w) (k + 2) C_Ratio "__rsub__" ["self", "other"] (spA (preW (erW cs) (fun x : (Int × Int) × Int => [iz (zRatio C_Ratio) x.1, iz zI x.2]) (zRatio C_Ratio) (fun x => m_Ratio___rsub__ x.1 x.2))) := by
  refine F.okWX sc_Ratio___rsub__ (fun _ => rfl) (fun f cdv A outer s H E x Q X hr h => ⟨_, (pss_one (ps_ret (pe_mkD DI_Ratio m_Ratio hr (fun σ => Passes.at (passes_call (takes_of rfl rfl rfl rfl) (fun _ _ _ _ h => h)) σ) (pa_cons (pe_op op_sub (pe_op op_mulW (pv 1) (kpe_fld (K := K) (pv 0))) (kpe_fld (K := K) (pv 0))) (pa_cons (kpe_fld (K := K) (pv 0)) pa_nil))))), fun fr Qv hret hrse => ?_⟩)
  obtain ⟨p_self, p_other⟩ := x
  replace h : m_Ratio___rsub__ p_self p_other Q X := h
  unfold m_Ratio___rsub__ at h
  refine kn_ret (we_mkP (wa_cons (we_op (we_op (we_var rfl (we_fld (we_var rfl (⟨_, fld_in T_Ratio.toClsF (by decide) rfl, ?_⟩))))))))
  obtain ⟨g1, h⟩ := h
  refine ops_IC g1 (we_fld (we_var rfl (⟨_, fld_in T_Ratio.toClsF (by decide) rfl, ops_I0 (wa_cons (we_fld (we_var rfl (⟨_, fld_in T_Ratio.toClsF (by decide) rfl, wa_nil ?_⟩))))⟩)))
  refine mkWE hrse (((p_other * p_self.2) - p_self.1), p_self.2) h (fun v2 h => ?_)
  exact hret _ h _
abbrev s_Ratio___mul__ : Stmt := inClass (topS 10) 7
theorem sc_Ratio___mul__ : FnScope ["self", "other", "top", "bottom"] ["self", "other"] (defScope s_Ratio___mul__) := ⟨rfl, rfl, rfl, by decide +kernel, rfl, by decide +kernel, by decide +kernel⟩
def m_Ratio___mul__ (p_self : (Int × Int)) (p_other : ((Int × Int) ⊕ Int)) : DM (Int × Int) := fun Q X =>
  m_terms p_other (fun v1 =>
  CMulW p_self.1 v1.1 ∧
  CMulW p_self.2 v1.2 ∧
  m_Ratio___init__ (p_self.1 * v1.1) (p_self.2 * v1.2) (fun v4 =>
  Q v4) X) noX
theorem ok_Ratio___mul__ {k : Nat} {cs : EK → Addr} {C_Ratio : Addr} (B : Bl mg) (T_Ratio : ClsA K mg C_Ratio "Ratio" ["top", "bottom"]) (D_terms : Def P w K mg base CX0 (k + 1) "terms" ["value"] (spA (preW (erW cs) (fun x : ((Int × Int) ⊕ Int) => [iz (yU (zRatio C_Ratio) zI) x]) (z2 zI zI) (fun x => m_terms x)))) (m_Ratio : mg "Ratio" = some (.ref C_Ratio)) (DI_Ratio : DefI P w K mg base (L2.CX P w) k C_Ratio ["self", "top", "bottom"] (spI C_Ratio (preW (erW cs) (fun x : Int × Int => [iz zI x.1, iz zI x.2]) (zRatio C_Ratio) (fun x => m_Ratio___init__ x.1 x.2))))
    (F : SrcM K C_Ratio "__mul__" "Ratio.__mul__" s_Ratio___mul__ ["self", "other"]) : DefM P w K mg base (L2.CX P w) (k + 2) C_Ratio "__mul__" ["self", "other"] (spA (preW (erW cs) (fun x : (Int × Int) × ((Int × Int) ⊕ Int) => [iz (zRatio C_Ratio) x.1, iz (yU (zRatio C_Ratio) zI) x.2]) (zRatio C_Ratio) (fun x => m_Ratio___mul__ x.1 x.2))) := by
  refine F.okWX sc_Ratio___mul__ (fun _ => rfl) (fun f cdv A outer s H E x Q X hr h => ⟨_, (pss_cons (ps_asg (pe_def D_terms hr pass0 (pa_cons (pv 1) pa_nil)) (kpg_tup (K := K) (n := 2) rfl (pgs_cons (pg_name (i := 2) sc_Ratio___mul__.nd rfl (Or.inl rfl)) (pgs_cons (pg_name (i := 3) sc_Ratio___mul__.nd rfl (Or.inl rfl)) pgs_nil))))
 (pss_one (ps_ret (pe_mkD DI_Ratio m_Ratio hr (fun σ => Passes.at (passes_call (takes_of rfl rfl rfl rfl) (fun _ _ _ _ h => h)) σ) (pa_cons (pe_op op_mulW (kpe_fld (K := K) (pv 0)) (pv 2)) (pa_cons (pe_op op_mulW (kpe_fld (K := K) (pv 0)) (pv 3)) pa_nil)))))), fun fr Qv hret hrse => ?_⟩)
  obtain ⟨p_self, p_other⟩ := x
  replace h : m_Ratio___mul__ p_self p_other Q X := h
  unfold m_Ratio___mul__ at h
  refine kn_seq (kn_asgT (we_callE (wa_cons (we_var rfl (wa_nil ?_)))))
  refine sps_W0 p_other h (fun v1 h => ?_)
  refine ⟨_, _, tg2 (by decide), ?_⟩
  try dsimp only
  refine kn_ret (we_mkP (wa_cons (we_op (we_fld (we_var rfl (⟨_, fld_in T_Ratio.toClsF (by decide) rfl, we_var rfl ?_⟩))))))
  obtain ⟨g2, h⟩ := h
  refine ops_IC g2 (wa_cons (we_op (we_fld (we_var rfl (⟨_, fld_in T_Ratio.toClsF (by decide) rfl, we_var rfl ?_⟩)))))
  obtain ⟨g3, h⟩ := h
  refine ops_IC g3 (wa_nil ?_)
  refine mkWE hrse ((p_self.1 * v1.1), (p_self.2 * v1.2)) h (fun v4 h => ?_)
  exact hret _ h _
abbrev s_Ratio___rmul__ : Stmt := inClass (topS 10) 8
theorem sc_Ratio___rmul__ : FnScope ["self", "other"] ["self", "other"] (defScope s_Ratio___rmul__) := ⟨rfl, rfl, rfl, by decide +kernel, rfl, by decide +kernel, by decide +kernel⟩
def m_Ratio___rmul__ (p_self : (Int × Int)) (p_other : Int) : DM (Int × Int) := fun Q X =>
  CMulW p_self.1 p_other ∧
  m_Ratio___init__ (p_self.1 * p_other) p_self.2 (fun v2 =>
  Q v2) X
theorem ok_Ratio___rmul__ {k : Nat} {cs : EK → Addr} {C_Ratio : Addr} (B : Bl mg) (T_Ratio : ClsA K mg C_Ratio "Ratio" ["top", "bottom"]) (m_Ratio : mg "Ratio" = some (.ref C_Ratio)) (DI_Ratio : DefI P w K mg base (L2.CX P w) k C_Ratio ["self", "top", "bottom"] (spI C_Ratio (preW (erW cs) (fun x : Int × Int => [iz zI x.1, iz zI x.2]) (zRatio C_Ratio) (fun x => m_Ratio___init__ x.1 x.2))))
    (F : SrcM K C_Ratio "__rmul__" "Ratio.__rmul__" s_Ratio___rmul__ ["self", "other"]) : DefM P w K mg base (L2.CX P w) (k + 2) C_Ratio "__rmul__" ["self", "other"] (spA (preW (erW cs) (fun x : (Int × Int) × Int => [iz (zRatio C_Ratio) x.1, iz zI x.2]) (zRatio C_Ratio) (fun x => m_Ratio___rmul__ x.1 x.2))) := by
  refine F.okWX sc_Ratio___rmul__ (fun _ => rfl) (fun f cdv A outer s H E x Q X hr h => ⟨_, (pss_one (ps_ret (pe_mkD DI_Ratio m_Ratio hr (fun σ => Passes.at (passes_call (takes_of rfl rfl rfl rfl) (fun _ _ _ _ h => h)) σ) (pa_cons (pe_op op_mulW (kpe_fld (K := K) (pv 0)) (pv 1)) (pa_cons (kpe_fld (K := K) (pv 0)) pa_nil))))), fun fr Qv hret hrse => ?_⟩)
  obtain ⟨p_self, p_other⟩ := x
  replace h : m_Ratio___rmul__ p_self p_other Q X := h
  unfold m_Ratio___rmul__ at h
  refine kn_ret (we_mkP (wa_cons (we_op (we_fld (we_var rfl (⟨_, fld_in T_Ratio.toClsF (by decide) rfl, we_var rfl ?_⟩))))))
  obtain ⟨g1, h⟩ := h
  refine ops_IC g1 (wa_cons (we_fld (we_var rfl (⟨_, fld_in T_Ratio.toClsF (by decide) rfl, wa_nil ?_⟩))))
  refine mkWE hrse ((p_self.1 * p_other), p_self.2) h (fun v2 h => ?_)
  exact hret _ h _
abbrev s_Ratio___neg__ : Stmt := inClass (topS 10) 11
theorem sc_Ratio___neg__ : FnScope ["self"] ["self"] (defScope s_Ratio___neg__) := ⟨rfl, rfl, rfl, by decide +kernel, rfl, by decide +kernel, by decide +kernel⟩
def m_Ratio___neg__ (p_self : (Int × Int)) : DM (Int × Int) := fun Q X =>
  m_Ratio___init__ (-p_self.1) p_self.2 (fun v1 =>
  Q v1) X
theorem ok_Ratio___neg__ {k : Nat} {cs : EK → Addr} {C_Ratio : Addr} (B : Bl mg) (T_Ratio : ClsA K mg C_Ratio "Ratio" ["top", "bottom"]) (m_Ratio : mg "Ratio" = some (.ref C_Ratio)) (DI_Ratio : DefI P w K mg base (L2.CX P w) k C_Ratio ["self", "top", "bottom"] (spI C_Ratio (preW (erW cs) (fun x : Int × Int => [iz zI x.1, iz zI x.2]) (zRatio C_Ratio) (fun x => m_Ratio___init__ x.1 x.2))))
    (F : SrcM K C_Ratio "__neg__" "Ratio.__neg__" s_Ratio___neg__ ["self"]) : DefM P w K mg base (L2.CX P w) (k + 2) C_Ratio "__neg__" ["self"] (spA (preW (erW cs) (fun x : (Int × Int) => [iz (zRatio C_Ratio) x]) (zRatio C_Ratio) (fun x => m_Ratio___neg__ x))) := by
  refine F.okWX sc_Ratio___neg__ (fun _ => rfl) (fun f cdv A outer s H E p_self Q X hr h => ⟨_, (pss_one (ps_ret (pe_mkD DI_Ratio m_Ratio hr (fun σ => Passes.at (passes_call (takes_of rfl rfl rfl rfl) (fun _ _ _ _ h => h)) σ) (pa_cons (pe_un un_neg (kpe_fld (K := K) (pv 0))) (pa_cons (kpe_fld (K := K) (pv 0)) pa_nil))))), fun fr Qv hret hrse => ?_⟩)
  replace h : m_Ratio___neg__ p_self Q X := h
  unfold m_Ratio___neg__ at h
  refine kn_ret (we_mkP (wa_cons (we_un (we_fld (we_var rfl (⟨_, fld_in T_Ratio.toClsF (by decide) rfl, uns_I (wa_cons (we_fld (we_var rfl (⟨_, fld_in T_Ratio.toClsF (by decide) rfl, wa_nil ?_⟩))))⟩))))))
  refine mkWE hrse ((-p_self.1), p_self.2) h (fun v1 h => ?_)
  exact hret _ h _
abbrev s_Ratio___abs__ : Stmt := inClass (topS 10) 12
theorem sc_Ratio___abs__ : FnScope ["self"] ["self"] (defScope s_Ratio___abs__) := ⟨rfl, rfl, rfl, by decide +kernel, rfl, by decide +kernel, by decide +kernel⟩
def m_Ratio___abs__ (p_self : (Int × Int)) : DM (Int × Int) := fun Q X =>
  m_Ratio___init__ (if p_self.1 < 0 then -p_self.1 else p_self.1) p_self.2 (fun v1 =>
  Q v1) X
theorem ok_Ratio___abs__ {k : Nat} {cs : EK → Addr} {C_Ratio : Addr} (B : Bl mg) (T_Ratio : ClsA K mg C_Ratio "Ratio" ["top", "bottom"]) (m_Ratio : mg "Ratio" = some (.ref C_Ratio)) (DI_Ratio : DefI P w K mg base (L2.CX P w) k C_Ratio ["self", "top", "bottom"] (spI C_Ratio (preW (erW cs) (fun x : Int × Int => [iz zI x.1, iz zI x.2]) (zRatio C_Ratio) (fun x => m_Ratio___init__ x.1 x.2))))
    (F : SrcM K C_Ratio "__abs__" "Ratio.__abs__" s_Ratio___abs__ ["self"]) : DefM P w K mg base (L2.CX P w) (k + 2) C_Ratio "__abs__" ["self"] (spA (preW (erW cs) (fun x : (Int × Int) => [iz (zRatio C_Ratio) x]) (zRatio C_Ratio) (fun x => m_Ratio___abs__ x))) := by
  refine F.okWX sc_Ratio___abs__ (fun _ => rfl) (fun f cdv A outer s H E p_self Q X hr h => ⟨_, (pss_one (ps_ret (pe_mkD DI_Ratio m_Ratio hr (fun σ => Passes.at (passes_call (takes_of rfl rfl rfl rfl) (fun _ _ _ _ h => h)) σ) (pa_cons (pe_callB call_abs (by rfl) B.abs (by decide +kernel) (pa_cons (kpe_fld (K := K) (pv 0)) pa_nil)) (pa_cons (kpe_fld (K := K) (pv 0)) pa_nil))))), fun fr Qv hret hrse => ?_⟩)
  replace h : m_Ratio___abs__ p_self Q X := h
  unfold m_Ratio___abs__ at h
  refine kn_ret (we_mkP (wa_cons (we_cb (wa_cons (we_fld (we_var rfl (⟨_, fld_in T_Ratio.toClsF (by decide) rfl, wa_nil (cb_abs (wa_cons (we_fld (we_var rfl (⟨_, fld_in T_Ratio.toClsF (by decide) rfl, wa_nil ?_⟩)))))⟩)))))))
  refine mkWE hrse ((if p_self.1 < 0 then -p_self.1 else p_self.1), p_self.2) h (fun v1 h => ?_)
  exact hret _ h _
abbrev s_Ratio___bool__ : Stmt := inClass (topS 10) 13
theorem sc_Ratio___bool__ : FnScope ["self"] ["self"] (defScope s_Ratio___bool__) := ⟨rfl, rfl, rfl, by decide +kernel, rfl, by decide +kernel, by decide +kernel⟩
def m_Ratio___bool__ (p_self : (Int × Int)) : DM Bool := fun Q X =>
  Q (p_self.1 != 0)
theorem ok_Ratio___bool__ {k : Nat} {cs : EK → Addr} {C_Ratio : Addr} (B : Bl mg) (T_Ratio : ClsA K mg C_Ratio "Ratio" ["top", "bottom"])
    (F : SrcM K C_Ratio "__bool__" "Ratio.__bool__" s_Ratio___bool__ ["self"]) : DefM P w K mg base CX0 (k + 1) C_Ratio "__bool__" ["self"] (spA (preW (erW cs) (fun x : (Int × Int) => [iz (zRatio C_Ratio) x]) zB (fun x => m_Ratio___bool__ x))) := by
  refine F.okW sc_Ratio___bool__ (fun _ => rfl) (fun f cdv A outer s H E p_self Q X hr h => ⟨_, (pss_one (ps_ret (pe_callTy call_bool1 (by rfl) B.bool' (by decide +kernel) (pa_cons (kpe_fld (K := K) (pv 0)) pa_nil)))), fun fr Qv hret => ?_⟩)
  replace h : m_Ratio___bool__ p_self Q X := h
  unfold m_Ratio___bool__ at h
  refine kn_ret (we_cb (wa_cons (we_fld (we_var rfl (⟨_, fld_in T_Ratio.toClsF (by decide) rfl, wa_nil (cy_boolI ?_)⟩)))))
  exact hret _ h _
abbrev s_Ratio___eq__ : Stmt := inClass (topS 10) 14
theorem sc_Ratio___eq__ : FnScope ["self", "other", "top", "bottom"] ["self", "other"] (defScope s_Ratio___eq__) := ⟨rfl, rfl, rfl, by decide +kernel, rfl, by decide +kernel, by decide +kernel⟩
def m_Ratio___eq__ (p_self : (Int × Int)) (p_other : ((Int × Int) ⊕ Int)) : DM Bool := fun Q X =>
  ifD (!true) (
  True) (
  m_terms p_other (fun v1 =>
  Q ((decide (p_self.1 = v1.1)) && (decide (p_self.2 = v1.2)))) noX)
theorem ok_Ratio___eq__ {k : Nat} {cs : EK → Addr} {C_Ratio : Addr} (B : Bl mg) (T_Ratio : ClsA K mg C_Ratio "Ratio" ["top", "bottom"]) (D_terms : Def P w K mg base CX0 k "terms" ["value"] (spA (preW (erW cs) (fun x : ((Int × Int) ⊕ Int) => [iz (yU (zRatio C_Ratio) zI) x]) (z2 zI zI) (fun x => m_terms x))))
    (F : SrcM K C_Ratio "__eq__" "Ratio.__eq__" s_Ratio___eq__ ["self", "other"]) : DefM P w K mg base CX0 (k + 1) C_Ratio "__eq__" ["self", "other"] (spA (preW (erW cs) (fun x : (Int × Int) × ((Int × Int) ⊕ Int) => [iz (zRatio C_Ratio) x.1, iz (yU (zRatio C_Ratio) zI) x.2]) zB (fun x => m_Ratio___eq__ x.1 x.2))) := by
  refine F.okW sc_Ratio___eq__ (fun _ => rfl) (fun f cdv A outer s H E x Q X hr h => ⟨_, (pss_cons (ps_if (pt_not (pt_val (pe_callB (kcall_isiT (K := K)) (by rfl) B.isinstance (by decide +kernel) (pa_cons (pv 1) (pa_cons (pe_tup (pa_cons (pe_glo T_Ratio.glo) (pa_cons (pe_bltn (v := .ty "int") (by rfl) B.int' (by decide +kernel) rfl) pa_nil))) pa_nil))))) pss_false pss_nil)
 (pss_cons (ps_asg (pe_def D_terms hr pass0 (pa_cons (pv 1) pa_nil)) (kpg_tup (K := K) (n := 2) rfl (pgs_cons (pg_name (i := 2) sc_Ratio___eq__.nd rfl (Or.inl rfl)) (pgs_cons (pg_name (i := 3) sc_Ratio___eq__.nd rfl (Or.inl rfl)) pgs_nil))))
 (pss_one (ps_ret (pe_and (pe_cmpR op_eq (kpe_fld (K := K) (pv 0)) (pv 2) (nomark _)) (pe_one (pe_cmpR op_eq (kpe_fld (K := K) (pv 0)) (pv 3) (nomark _)))))))), fun fr Qv hret => ?_⟩)
  obtain ⟨p_self, p_other⟩ := x
  replace h : m_Ratio___eq__ p_self p_other Q X := h
  unfold m_Ratio___eq__ at h
  refine kn_seq (kn_if (wt_not (wt_b (we_cb (wa_cons (we_var rfl (wa_cons (we_tup (wa_cons (we_cA (wa_cons (we_cT (wa_nil (⟨Nat.le_of_ble_eq_true rfl, _, tr_cls, wa_nil (cb_isTI T_Ratio.io T_Ratio.k3 T_Ratio.k4 (⟨_, rfl, ⟨fun hc => ?_, fun hc => ?_⟩⟩))⟩))))))))))))))
  · exact absurd hc (by decide)
  · have h := h.2 hc
    refine kn_next ?_
    try dsimp only
    refine kn_seq (kn_asgT (we_callE (wa_cons (we_var rfl (wa_nil ?_)))))
    refine sps_W0 p_other h (fun v1 h => ?_)
    refine ⟨_, _, tg2 (by decide), ?_⟩
    try dsimp only
    refine kn_ret (we_andP (we_op (we_fld (we_var rfl (⟨_, fld_in T_Ratio.toClsF (by decide) rfl, we_var rfl (ops_eqI (⟨_, _, rfl, fun _ => we_op (we_fld (we_var rfl (⟨_, fld_in T_Ratio.toClsF (by decide) rfl, we_var rfl (ops_eqI (⟨rfl, rfl⟩))⟩))), ?_⟩))⟩)))))
    exact hret _ h _
abbrev s_Ratio___lt__ : Stmt := inClass (topS 10) 15
theorem sc_Ratio___lt__ : FnScope ["self", "other", "top", "bottom"] ["self", "other"] (defScope s_Ratio___lt__) := ⟨rfl, rfl, rfl, by decide +kernel, rfl, by decide +kernel, by decide +kernel⟩
def m_Ratio___lt__ (p_self : (Int × Int)) (p_other : ((Int × Int) ⊕ Int)) : DM Bool := fun Q X =>
  ifD (!true) (
  True) (
  m_terms p_other (fun v1 =>
  CMulW p_self.1 v1.2 ∧
  CMulW v1.1 p_self.2 ∧
  Q (decide ((p_self.1 * v1.2) < (v1.1 * p_self.2)))) noX)
theorem ok_Ratio___lt__ {k : Nat} {cs : EK → Addr} {C_Ratio : Addr} (B : Bl mg) (T_Ratio : ClsA K mg C_Ratio "Ratio" ["top", "bottom"]) (D_terms : Def P w K mg base CX0 k "terms" ["value"] (spA (preW (erW cs) (fun x : ((Int × Int) ⊕ Int) => [iz (yU (zRatio C_Ratio) zI) x]) (z2 zI zI) (fun x => m_terms x))))
    (F : SrcM K C_Ratio "__lt__" "Ratio.__lt__" s_Ratio___lt__ ["self", "other"]) : DefM P w K mg base CX0 (k + 1) C_Ratio "__lt__" ["self", "other"] (spA (preW (erW cs) (fun x : (Int × Int) × ((Int × Int) ⊕ Int) => [iz (zRatio C_Ratio) x.1, iz (yU (zRatio C_Ratio) zI) x.2]) zB (fun x => m_Ratio___lt__ x.1 x.2))) := by
  refine F.okW sc_Ratio___lt__ (fun _ => rfl) (fun f cdv A outer s H E x Q X hr h => ⟨_, (pss_cons (ps_if (pt_not (pt_val (pe_callB (kcall_isiT (K := K)) (by rfl) B.isinstance (by decide +kernel) (pa_cons (pv 1) (pa_cons (pe_tup (pa_cons (pe_glo T_Ratio.glo) (pa_cons (pe_bltn (v := .ty "int") (by rfl) B.int' (by decide +kernel) rfl) pa_nil))) pa_nil))))) pss_false pss_nil)
 (pss_cons (ps_asg (pe_def D_terms hr pass0 (pa_cons (pv 1) pa_nil)) (kpg_tup (K := K) (n := 2) rfl (pgs_cons (pg_name (i := 2) sc_Ratio___lt__.nd rfl (Or.inl rfl)) (pgs_cons (pg_name (i := 3) sc_Ratio___lt__.nd rfl (Or.inl rfl)) pgs_nil))))
 (pss_one (ps_ret (pe_cmpR op_lt (pe_op op_mulW (kpe_fld (K := K) (pv 0)) (pv 3)) (pe_op op_mulW (pv 2) (kpe_fld (K := K) (pv 0))) (nomark _)))))), fun fr Qv hret => ?_⟩)
  obtain ⟨p_self, p_other⟩ := x
  replace h : m_Ratio___lt__ p_self p_other Q X := h
  unfold m_Ratio___lt__ at h
  refine kn_seq (kn_if (wt_not (wt_b (we_cb (wa_cons (we_var rfl (wa_cons (we_tup (wa_cons (we_cA (wa_cons (we_cT (wa_nil (⟨Nat.le_of_ble_eq_true rfl, _, tr_cls, wa_nil (cb_isTI T_Ratio.io T_Ratio.k3 T_Ratio.k4 (⟨_, rfl, ⟨fun hc => ?_, fun hc => ?_⟩⟩))⟩))))))))))))))
  · exact absurd hc (by decide)
  · have h := h.2 hc
    refine kn_next ?_
    try dsimp only
    refine kn_seq (kn_asgT (we_callE (wa_cons (we_var rfl (wa_nil ?_)))))
    refine sps_W0 p_other h (fun v1 h => ?_)
    refine ⟨_, _, tg2 (by decide), ?_⟩
    try dsimp only
    refine kn_ret (we_op (we_op (we_fld (we_var rfl (⟨_, fld_in T_Ratio.toClsF (by decide) rfl, we_var rfl ?_⟩)))))
    obtain ⟨g2, h⟩ := h
    refine ops_IC g2 (we_op (we_var rfl (we_fld (we_var rfl (⟨_, fld_in T_Ratio.toClsF (by decide) rfl, ?_⟩)))))
    obtain ⟨g3, h⟩ := h
    refine ops_IC g3 (ops_B0 ?_)
    exact hret _ h _
abbrev s_Ratio___le__ : Stmt := inClass (topS 10) 16
theorem sc_Ratio___le__ : FnScope ["self", "other", "top", "bottom"] ["self", "other"] (defScope s_Ratio___le__) := ⟨rfl, rfl, rfl, by decide +kernel, rfl, by decide +kernel, by decide +kernel⟩
def m_Ratio___le__ (p_self : (Int × Int)) (p_other : ((Int × Int) ⊕ Int)) : DM Bool := fun Q X =>
  ifD (!true) (
  True) (
  m_terms p_other (fun v1 =>
  CMulW p_self.1 v1.2 ∧
  CMulW v1.1 p_self.2 ∧
  Q (decide ((p_self.1 * v1.2) ≤ (v1.1 * p_self.2)))) noX)
theorem ok_Ratio___le__ {k : Nat} {cs : EK → Addr} {C_Ratio : Addr} (B : Bl mg) (T_Ratio : ClsA K mg C_Ratio "Ratio" ["top", "bottom"]) (D_terms : Def P w K mg base CX0 k "terms" ["value"] (spA (preW (erW cs) (fun x : ((Int × Int) ⊕ Int) => [iz (yU (zRatio C_Ratio) zI) x]) (z2 zI zI) (fun x => m_terms x))))
    (F : SrcM K C_Ratio "__le__" "Ratio.__le__" s_Ratio___le__ ["self", "other"]) : DefM P w K mg base CX0 (k + 1) C_Ratio "__le__" ["self", "other"] (spA (preW (erW cs) (fun x : (Int × Int) × ((Int × Int) ⊕ Int) => [iz (zRatio C_Ratio) x.1, iz (yU (zRatio C_Ratio) zI) x.2]) zB (fun x => m_Ratio___le__ x.1 x.2))) := by
  refine F.okW sc_Ratio___le__ (fun _ => rfl) (fun f cdv A outer s H E x Q X hr h => ⟨_, (pss_cons (ps_if (pt_not (pt_val (pe_callB (kcall_isiT (K := K)) (by rfl) B.isinstance (by decide +kernel) (pa_cons (pv 1) (pa_cons (pe_tup (pa_cons (pe_glo T_Ratio.glo) (pa_cons (pe_bltn (v := .ty "int") (by rfl) B.int' (by decide +kernel) rfl) pa_nil))) pa_nil))))) pss_false pss_nil)
 (pss_cons (ps_asg (pe_def D_terms hr pass0 (pa_cons (pv 1) pa_nil)) (kpg_tup (K := K) (n := 2) rfl (pgs_cons (pg_name (i := 2) sc_Ratio___le__.nd rfl (Or.inl rfl)) (pgs_cons (pg_name (i := 3) sc_Ratio___le__.nd rfl (Or.inl rfl)) pgs_nil))))
 (pss_one (ps_ret (pe_cmpR op_le (pe_op op_mulW (kpe_fld (K := K) (pv 0)) (pv 3)) (pe_op op_mulW (pv 2) (kpe_fld (K := K) (pv 0))) (nomark _)))))), fun fr Qv hret => ?_⟩)
  obtain ⟨p_self, p_other⟩ := x
  replace h : m_Ratio___le__ p_self p_other Q X := h
  unfold m_Ratio___le__ at h
  refine kn_seq (kn_if (wt_not (wt_b (we_cb (wa_cons (we_var rfl (wa_cons (we_tup (wa_cons (we_cA (wa_cons (we_cT (wa_nil (⟨Nat.le_of_ble_eq_true rfl, _, tr_cls, wa_nil (cb_isTI T_Ratio.io T_Ratio.k3 T_Ratio.k4 (⟨_, rfl, ⟨fun hc => ?_, fun hc => ?_⟩⟩))⟩))))))))))))))
  · exact absurd hc (by decide)
  · have h := h.2 hc
    refine kn_next ?_
    try dsimp only
    refine kn_seq (kn_asgT (we_callE (wa_cons (we_var rfl (wa_nil ?_)))))
    refine sps_W0 p_other h (fun v1 h => ?_)
    refine ⟨_, _, tg2 (by decide), ?_⟩
    try dsimp only
    refine kn_ret (we_op (we_op (we_fld (we_var rfl (⟨_, fld_in T_Ratio.toClsF (by decide) rfl, we_var rfl ?_⟩)))))
    obtain ⟨g2, h⟩ := h
    refine ops_IC g2 (we_op (we_var rfl (we_fld (we_var rfl (⟨_, fld_in T_Ratio.toClsF (by decide) rfl, ?_⟩)))))
    obtain ⟨g3, h⟩ := h
    refine ops_IC g3 (ops_B0 ?_)
    exact hret _ h _
abbrev s_Ratio___gt__ : Stmt := inClass (topS 10) 17
theorem sc_Ratio___gt__ : FnScope ["self", "other", "top", "bottom"] ["self", "other"] (defScope s_Ratio___gt__) := ⟨rfl, rfl, rfl, by decide +kernel, rfl, by decide +kernel, by decide +kernel⟩
def m_Ratio___gt__ (p_self : (Int × Int)) (p_other : ((Int × Int) ⊕ Int)) : DM Bool := fun Q X =>
  ifD (!true) (
  True) (
  m_terms p_other (fun v1 =>
  CMulW p_self.1 v1.2 ∧
  CMulW v1.1 p_self.2 ∧
  Q (decide ((p_self.1 * v1.2) > (v1.1 * p_self.2)))) noX)
theorem ok_Ratio___gt__ {k : Nat} {cs : EK → Addr} {C_Ratio : Addr} (B : Bl mg) (T_Ratio : ClsA K mg C_Ratio "Ratio" ["top", "bottom"]) (D_terms : Def P w K mg base CX0 k "terms" ["value"] (spA (preW (erW cs) (fun x : ((Int × Int) ⊕ Int) => [iz (yU (zRatio C_Ratio) zI) x]) (z2 zI zI) (fun x => m_terms x))))
    (F : SrcM K C_Ratio "__gt__" "Ratio.__gt__" s_Ratio___gt__ ["self", "other"]) : DefM P w K mg base CX0 (k + 1) C_Ratio "__gt__" ["self", "other"] (spA (preW (erW cs) (fun x : (Int × Int) × ((Int × Int) ⊕ Int) => [iz (zRatio C_Ratio) x.1, iz (yU (zRatio C_Ratio) zI) x.2]) zB (fun x => m_Ratio___gt__ x.1 x.2))) := by
  refine F.okW sc_Ratio___gt__ (fun _ => rfl) (fun f cdv A outer s H E x Q X hr h => ⟨_, (pss_cons (ps_if (pt_not (pt_val (pe_callB (kcall_isiT (K := K)) (by rfl) B.isinstance (by decide +kernel) (pa_cons (pv 1) (pa_cons (pe_tup (pa_cons (pe_glo T_Ratio.glo) (pa_cons (pe_bltn (v := .ty "int") (by rfl) B.int' (by decide +kernel) rfl) pa_nil))) pa_nil))))) pss_false pss_nil)
 (pss_cons (ps_asg (pe_def D_terms hr pass0 (pa_cons (pv 1) pa_nil)) (kpg_tup (K := K) (n := 2) rfl (pgs_cons (pg_name (i := 2) sc_Ratio___gt__.nd rfl (Or.inl rfl)) (pgs_cons (pg_name (i := 3) sc_Ratio___gt__.nd rfl (Or.inl rfl)) pgs_nil))))
 (pss_one (ps_ret (pe_cmpR op_gt (pe_op op_mulW (kpe_fld (K := K) (pv 0)) (pv 3)) (pe_op op_mulW (pv 2) (kpe_fld (K := K) (pv 0))) (nomark _)))))), fun fr Qv hret => ?_⟩)
  obtain ⟨p_self, p_other⟩ := x
  replace h : m_Ratio___gt__ p_self p_other Q X := h
  unfold m_Ratio___gt__ at h
  refine kn_seq (kn_if (wt_not (wt_b (we_cb (wa_cons (we_var rfl (wa_cons (we_tup (wa_cons (we_cA (wa_cons (we_cT (wa_nil (⟨Nat.le_of_ble_eq_true rfl, _, tr_cls, wa_nil (cb_isTI T_Ratio.io T_Ratio.k3 T_Ratio.k4 (⟨_, rfl, ⟨fun hc => ?_, fun hc => ?_⟩⟩))⟩))))))))))))))
  · exact absurd hc (by decide)
  · have h := h.2 hc
    refine kn_next ?_
    try dsimp only
    refine kn_seq (kn_asgT (we_callE (wa_cons (we_var rfl (wa_nil ?_)))))
    refine sps_W0 p_other h (fun v1 h => ?_)
    refine ⟨_, _, tg2 (by decide), ?_⟩
    try dsimp only
    refine kn_ret (we_op (we_op (we_fld (we_var rfl (⟨_, fld_in T_Ratio.toClsF (by decide) rfl, we_var rfl ?_⟩)))))
    obtain ⟨g2, h⟩ := h
    refine ops_IC g2 (we_op (we_var rfl (we_fld (we_var rfl (⟨_, fld_in T_Ratio.toClsF (by decide) rfl, ?_⟩)))))
    obtain ⟨g3, h⟩ := h
    refine ops_IC g3 (ops_B0 ?_)
    exact hret _ h _
abbrev s_Ratio___ge__ : Stmt := inClass (topS 10) 18
theorem sc_Ratio___ge__ : FnScope ["self", "other", "top", "bottom"] ["self", "other"] (defScope s_Ratio___ge__) := ⟨rfl, rfl, rfl, by decide +kernel, rfl, by decide +kernel, by decide +kernel⟩
def m_Ratio___ge__ (p_self : (Int × Int)) (p_other : ((Int × Int) ⊕ Int)) : DM Bool := fun Q X =>
  ifD (!true) (
  True) (
  m_terms p_other (fun v1 =>
  CMulW p_self.1 v1.2 ∧
  CMulW v1.1 p_self.2 ∧
  Q (decide ((p_self.1 * v1.2) ≥ (v1.1 * p_self.2)))) noX)
theorem ok_Ratio___ge__ {k : Nat} {cs : EK → Addr} {C_Ratio : Addr} (B : Bl mg) (T_Ratio : ClsA K mg C_Ratio "Ratio" ["top", "bottom"]) (D_terms : Def P w K mg base CX0 k "terms" ["value"] (spA (preW (erW cs) (fun x : ((Int × Int) ⊕ Int) => [iz (yU (zRatio C_Ratio) zI) x]) (z2 zI zI) (fun x => m_terms x))))
    (F : SrcM K C_Ratio "__ge__" "Ratio.__ge__" s_Ratio___ge__ ["self", "other"]) : DefM P w K mg base CX0 (k + 1) C_Ratio "__ge__" ["self", "other"] (spA (preW (erW cs) (fun x : (Int × Int) × ((Int × Int) ⊕ Int) => [iz (zRatio C_Ratio) x.1, iz (yU (zRatio C_Ratio) zI) x.2]) zB (fun x => m_Ratio___ge__ x.1 x.2))) := by
  refine F.okW sc_Ratio___ge__ (fun _ => rfl) (fun f cdv A outer s H E x Q X hr h => ⟨_, (pss_cons (ps_if (pt_not (pt_val (pe_callB (kcall_isiT (K := K)) (by rfl) B.isinstance (by decide +kernel) (pa_cons (pv 1) (pa_cons (pe_tup (pa_cons (pe_glo T_Ratio.glo) (pa_cons (pe_bltn (v := .ty "int") (by rfl) B.int' (by decide +kernel) rfl) pa_nil))) pa_nil))))) pss_false pss_nil)
 (pss_cons (ps_asg (pe_def D_terms hr pass0 (pa_cons (pv 1) pa_nil)) (kpg_tup (K := K) (n := 2) rfl (pgs_cons (pg_name (i := 2) sc_Ratio___ge__.nd rfl (Or.inl rfl)) (pgs_cons (pg_name (i := 3) sc_Ratio___ge__.nd rfl (Or.inl rfl)) pgs_nil))))
 (pss_one (ps_ret (pe_cmpR op_ge (pe_op op_mulW (kpe_fld (K := K) (pv 0)) (pv 3)) (pe_op op_mulW (pv 2) (kpe_fld (K := K) (pv 0))) (nomark _)))))), fun fr Qv hret => ?_⟩)
  obtain ⟨p_self, p_other⟩ := x
  replace h : m_Ratio___ge__ p_self p_other Q X := h
  unfold m_Ratio___ge__ at h
  refine kn_seq (kn_if (wt_not (wt_b (we_cb (wa_cons (we_var rfl (wa_cons (we_tup (wa_cons (we_cA (wa_cons (we_cT (wa_nil (⟨Nat.le_of_ble_eq_true rfl, _, tr_cls, wa_nil (cb_isTI T_Ratio.io T_Ratio.k3 T_Ratio.k4 (⟨_, rfl, ⟨fun hc => ?_, fun hc => ?_⟩⟩))⟩))))))))))))))
  · exact absurd hc (by decide)
  · have h := h.2 hc
    refine kn_next ?_
    try dsimp only
    refine kn_seq (kn_asgT (we_callE (wa_cons (we_var rfl (wa_nil ?_)))))
    refine sps_W0 p_other h (fun v1 h => ?_)
    refine ⟨_, _, tg2 (by decide), ?_⟩
    try dsimp only
    refine kn_ret (we_op (we_op (we_fld (we_var rfl (⟨_, fld_in T_Ratio.toClsF (by decide) rfl, we_var rfl ?_⟩)))))
    obtain ⟨g2, h⟩ := h
    refine ops_IC g2 (we_op (we_var rfl (we_fld (we_var rfl (⟨_, fld_in T_Ratio.toClsF (by decide) rfl, ?_⟩)))))
    obtain ⟨g3, h⟩ := h
    refine ops_IC g3 (ops_B0 ?_)
    exact hret _ h _
end

/-! ## ratdiv -/
section
variable {P : Program} {w : World} {K : PySem.W.Frag} {mg : Str → Option Value} {base : Heap}
abbrev s_Ratio_over : Stmt := inClass (topS 10) 2
theorem sc_Ratio_over : FnScope ["self", "other", "top", "bottom"] ["self", "other"] (defScope s_Ratio_over) := ⟨rfl, rfl, rfl, by decide +kernel, rfl, by decide +kernel, by decide +kernel⟩
def m_Ratio_over (p_self : (Int × Int)) (p_other : ((Int × Int) ⊕ Int)) : DM (Int × Int) := fun Q X =>
  m_terms p_other (fun v1 =>
  CMulW p_self.1 v1.2 ∧
  CMulW p_self.2 v1.1 ∧
  m_Ratio___init__ (p_self.1 * v1.2) (p_self.2 * v1.1) (fun v4 =>
  Q v4) X) noX
theorem ok_Ratio_over {k : Nat} {cs : EK → Addr} {C_Ratio : Addr} (B : Bl mg) (T_Ratio : ClsA K mg C_Ratio "Ratio" ["top", "bottom"]) (D_terms : Def P w K mg base CX0 (k + 1) "terms" ["value"] (spA (preW (erW cs) (fun x : ((Int × Int) ⊕ Int) => [iz (yU (zRatio C_Ratio) zI) x]) (z2 zI zI) (fun x => m_terms x)))) (m_Ratio : mg "Ratio" = some (.ref C_Ratio)) (DI_Ratio : DefI P w K mg base (L2.CX P w) k C_Ratio ["self", "top", "bottom"] (spI C_Ratio (preW (erW cs) (fun x : Int × Int => [iz zI x.1, iz zI x.2]) (zRatio C_Ratio) (fun x => m_Ratio___init__ x.1 x.2))))
    (F : SrcM K C_Ratio "over" "Ratio.over" s_Ratio_over ["self", "other"]) : DefM P w K mg base (L2.CX P w) (k + 2) C_Ratio "over" ["self", "other"] (spA (preW (erW cs) (fun x : (Int × Int) × ((Int × Int) ⊕ Int) => [iz (zRatio C_Ratio) x.1, iz (yU (zRatio C_Ratio) zI) x.2]) (zRatio C_Ratio) (fun x => m_Ratio_over x.1 x.2))) := by
  refine F.okWX sc_Ratio_over (fun _ => rfl) (fun f cdv A outer s H E x Q X hr h => ⟨_, (pss_cons (ps_asg (pe_def D_terms hr pass0 (pa_cons (pv 1) pa_nil)) (kpg_tup (K := K) (n := 2) rfl (pgs_cons (pg_name (i := 2) sc_Ratio_over.nd rfl (Or.inl rfl)) (pgs_cons (pg_name (i := 3) sc_Ratio_over.nd rfl (Or.inl rfl)) pgs_nil))))
 (pss_one (ps_ret (pe_mkD DI_Ratio m_Ratio hr (fun σ => Passes.at (passes_call (takes_of rfl rfl rfl rfl) (fun _ _ _ _ h => h)) σ) (pa_cons (pe_op op_mulW (kpe_fld (K := K) (pv 0)) (pv 3)) (pa_cons (pe_op op_mulW (kpe_fld (K := K) (pv 0)) (pv 2)) pa_nil)))))), fun fr Qv hret hrse => ?_⟩)
  obtain ⟨p_self, p_other⟩ := x
  replace h : m_Ratio_over p_self p_other Q X := h
  unfold m_Ratio_over at h
  refine kn_seq (kn_asgT (we_callE (wa_cons (we_var rfl (wa_nil ?_)))))
  refine sps_W0 p_other h (fun v1 h => ?_)
  refine ⟨_, _, tg2 (by decide), ?_⟩
  try dsimp only
  refine kn_ret (we_mkP (wa_cons (we_op (we_fld (we_var rfl (⟨_, fld_in T_Ratio.toClsF (by decide) rfl, we_var rfl ?_⟩))))))
  obtain ⟨g2, h⟩ := h
  refine ops_IC g2 (wa_cons (we_op (we_fld (we_var rfl (⟨_, fld_in T_Ratio.toClsF (by decide) rfl, we_var rfl ?_⟩)))))
  obtain ⟨g3, h⟩ := h
  refine ops_IC g3 (wa_nil ?_)
  refine mkWE hrse ((p_self.1 * v1.2), (p_self.2 * v1.1)) h (fun v4 h => ?_)
  exact hret _ h _
abbrev s_Ratio___floordiv__ : Stmt := inClass (topS 10) 9
theorem sc_Ratio___floordiv__ : FnScope ["self", "other", "top", "bottom"] ["self", "other"] (defScope s_Ratio___floordiv__) := ⟨rfl, rfl, rfl, by decide +kernel, rfl, by decide +kernel, by decide +kernel⟩
def m_Ratio___floordiv__ (p_self : (Int × Int)) (p_other : ((Int × Int) ⊕ Int)) : DM Int := fun Q X =>
  m_terms p_other (fun v1 =>
  ifD (decide (v1.1 = (0 : Int))) (
  X (.badNumber (0 : Int))) (
  CMulW p_self.1 v1.2 ∧
  CMulW p_self.2 v1.1 ∧
  CDivZ (p_self.1 * v1.2) (p_self.2 * v1.1) ∧
  Q (Int.fdiv (p_self.1 * v1.2) (p_self.2 * v1.1)))) noX
theorem ok_Ratio___floordiv__ {k : Nat} {cs : EK → Addr} {f_BadNumber C_Ratio : Addr} (B : Bl mg) (T_Ratio : ClsA K mg C_Ratio "Ratio" ["top", "bottom"]) (D_terms : Def P w K mg base CX0 k "terms" ["value"] (spA (preW (erW cs) (fun x : ((Int × Int) ⊕ Int) => [iz (yU (zRatio C_Ratio) zI) x]) (z2 zI zI) (fun x => m_terms x)))) (X_BadNumber : ErrTxt P K mg false "BadNumber" (cs .badNumber) f_BadNumber ["number"])
    (F : SrcM K C_Ratio "__floordiv__" "Ratio.__floordiv__" s_Ratio___floordiv__ ["self", "other"]) : DefM P w K mg base (L2.CX P w) (k + 1) C_Ratio "__floordiv__" ["self", "other"] (spA (preW (erW cs) (fun x : (Int × Int) × ((Int × Int) ⊕ Int) => [iz (zRatio C_Ratio) x.1, iz (yU (zRatio C_Ratio) zI) x.2]) zI (fun x => m_Ratio___floordiv__ x.1 x.2))) := by
  refine F.okWX sc_Ratio___floordiv__ (fun _ => rfl) (fun f cdv A outer s H E x Q X hr h => ⟨_, (pss_cons (ps_asg (pe_def D_terms hr pass0 (pa_cons (pv 1) pa_nil)) (kpg_tup (K := K) (n := 2) rfl (pgs_cons (pg_name (i := 2) sc_Ratio___floordiv__.nd rfl (Or.inl rfl)) (pgs_cons (pg_name (i := 3) sc_Ratio___floordiv__.nd rfl (Or.inl rfl)) pgs_nil))))
 (pss_cons (ps_if (pt_cmpR op_eq (pv 2) pe_int (nomark _)) (pss_one (ps_raiseE rfl X_BadNumber hr (takes_of rfl rfl rfl rfl) (pa_cons pe_int pa_nil))) pss_nil)
 (pss_one (ps_ret (pe_op op_fdivZ (pe_op op_mulW (kpe_fld (K := K) (pv 0)) (pv 3)) (pe_op op_mulW (kpe_fld (K := K) (pv 0)) (pv 2))))))), fun fr Qv hret hrse => ?_⟩)
  obtain ⟨p_self, p_other⟩ := x
  replace h : m_Ratio___floordiv__ p_self p_other Q X := h
  unfold m_Ratio___floordiv__ at h
  refine kn_seq (kn_asgT (we_callE (wa_cons (we_var rfl (wa_nil ?_)))))
  refine sps_W0 p_other h (fun v1 h => ?_)
  refine ⟨_, _, tg2 (by decide), ?_⟩
  try dsimp only
  refine kn_seq (kn_if (wt_test (we_op (we_var rfl (we_cI (ops_eqI (⟨_, rfl, ⟨fun hc => ?_, fun hc => ?_⟩⟩)))))))
  · have h := h.1 hc
    refine kn_raiseY (wa_cons (we_cI (wa_nil ?_)))
    exact ⟨rfl, (fun h => nomatch h), hrse _ h _ _⟩
  · have h := h.2 hc
    refine kn_next ?_
    try dsimp only
    refine kn_ret (we_op (we_op (we_fld (we_var rfl (⟨_, fld_in T_Ratio.toClsF (by decide) rfl, we_var rfl ?_⟩)))))
    obtain ⟨g2, h⟩ := h
    refine ops_IC g2 (we_op (we_fld (we_var rfl (⟨_, fld_in T_Ratio.toClsF (by decide) rfl, we_var rfl ?_⟩))))
    obtain ⟨g3, h⟩ := h
    refine ops_IC g3 ?_
    obtain ⟨g4, h⟩ := h
    refine ops_IC g4 ?_
    exact hret _ h _
abbrev s_Ratio___rfloordiv__ : Stmt := inClass (topS 10) 10
theorem sc_Ratio___rfloordiv__ : FnScope ["self", "other"] ["self", "other"] (defScope s_Ratio___rfloordiv__) := ⟨rfl, rfl, rfl, by decide +kernel, rfl, by decide +kernel, by decide +kernel⟩
def m_Ratio___rfloordiv__ (p_self : (Int × Int)) (p_other : Int) : DM Int := fun Q X =>
  ifD (decide (p_self.1 = (0 : Int))) (
  X (.badNumber (0 : Int))) (
  CMulW p_other p_self.2 ∧
  CDivZ (p_other * p_self.2) p_self.1 ∧
  Q (Int.fdiv (p_other * p_self.2) p_self.1))
theorem ok_Ratio___rfloordiv__ {k : Nat} {cs : EK → Addr} {f_BadNumber C_Ratio : Addr} (B : Bl mg) (T_Ratio : ClsA K mg C_Ratio "Ratio" ["top", "bottom"]) (X_BadNumber : ErrTxt P K mg false "BadNumber" (cs .badNumber) f_BadNumber ["number"])
    (F : SrcM K C_Ratio "__rfloordiv__" "Ratio.__rfloordiv__" s_Ratio___rfloordiv__ ["self", "other"]) : DefM P w K mg base (L2.CX P w) (k + 1) C_Ratio "__rfloordiv__" ["self", "other"] (spA (preW (erW cs) (fun x : (Int × Int) × Int => [iz (zRatio C_Ratio) x.1, iz zI x.2]) zI (fun x => m_Ratio___rfloordiv__ x.1 x.2))) := by
  refine F.okWX sc_Ratio___rfloordiv__ (fun _ => rfl) (fun f cdv A outer s H E x Q X hr h => ⟨_, (pss_cons (ps_if (pt_cmpR op_eq (kpe_fld (K := K) (pv 0)) pe_int (nomark _)) (pss_one (ps_raiseE rfl X_BadNumber hr (takes_of rfl rfl rfl rfl) (pa_cons pe_int pa_nil))) pss_nil)
 (pss_one (ps_ret (pe_op op_fdivZ (pe_op op_mulW (pv 1) (kpe_fld (K := K) (pv 0))) (kpe_fld (K := K) (pv 0)))))), fun fr Qv hret hrse => ?_⟩)
  obtain ⟨p_self, p_other⟩ := x
  replace h : m_Ratio___rfloordiv__ p_self p_other Q X := h
  unfold m_Ratio___rfloordiv__ at h
  refine kn_seq (kn_if (wt_test (we_op (we_fld (we_var rfl (⟨_, fld_in T_Ratio.toClsF (by decide) rfl, we_cI (ops_eqI (⟨_, rfl, ⟨fun hc => ?_, fun hc => ?_⟩⟩))⟩))))))
  · have h := h.1 hc
    refine kn_raiseY (wa_cons (we_cI (wa_nil ?_)))
    exact ⟨rfl, (fun h => nomatch h), hrse _ h _ _⟩
  · have h := h.2 hc
    refine kn_next ?_
    try dsimp only
    refine kn_ret (we_op (we_op (we_var rfl (we_fld (we_var rfl (⟨_, fld_in T_Ratio.toClsF (by decide) rfl, ?_⟩))))))
    obtain ⟨g1, h⟩ := h
    refine ops_IC g1 (we_fld (we_var rfl (⟨_, fld_in T_Ratio.toClsF (by decide) rfl, ?_⟩)))
    obtain ⟨g2, h⟩ := h
    refine ops_IC g2 ?_
    exact hret _ h _
end

/-! ## ratl -/
section
variable {P : Program} {w : World} {K : PySem.W.Frag} {mg : Str → Option Value} {base : Heap}
abbrev s__law_number : Stmt := topS 14
theorem sc__law_number : FnScope ["_law_bag_here", "_law_size", "_law_number_here"] ["_law_bag_here"] (defScope s__law_number) := ⟨rfl, rfl, rfl, by decide +kernel, rfl, by decide +kernel, by decide +kernel⟩
def m__law_number  : DM Int := fun Q X =>
  m_draw (4 : Int) (fun v1 =>
  m_draw (13 : Int) (fun v2 =>
  joinD (fun j4 =>
  ifD (decide (v1 = (1 : Int))) (
  m_draw (1001 : Int) (fun v5 =>
  j4 v5) noX) (
  j4 v2)) (fun s3 : Int =>
  joinD (fun j7 =>
  ifD (decide (v1 = (2 : Int))) (
  CPow (10 : Int) (9 : Int) ∧
  m_draw ((10 : Int) ^ ((9 : Int)).toNat) (fun v9 =>
  CPow (10 : Int) (9 : Int) ∧
  m_draw ((10 : Int) ^ ((9 : Int)).toNat) (fun v11 =>
  CMul v9 ((1 : Int) + v11) ∧
  ∀ number13, number13 = (v9 * ((1 : Int) + v11)) →
  j7 number13) noX) noX) (
  j7 s3)) (fun s6 : Int =>
  joinD (fun j15 =>
  m_draw (2 : Int) (fun v16 =>
  ifD (decide (v16 = (1 : Int))) (
  ∀ number17, number17 = (-s6) →
  j15 number17) (
  j15 s6)) noX) (fun s14 : Int =>
  Q s14)))) noX) noX
theorem ok__law_number {k : Nat} {cs : EK → Addr} (B : Bl mg) (D__law_draw : Def P w K mg base CX0 k "_law_draw" ["_law_bag_here", "_law_many"] (spC (preK (cBag 4) (preBW (fun x : Int => [iz zI x]) zI m_draw))))
    (F : Src K mg "_law_number" s__law_number ["_law_bag_here"]) : Def P w K mg base CX0 (k + 1) "_law_number" ["_law_bag_here"] (spC (preK (cBag 4) (preBW (fun x : Unit => []) zI (fun x => m__law_number)))) := by
  refine F.okKW (fun _ _ => rfl) sc__law_number (fun _ => rfl) (fun f cdv A outer s H E b l x Q hr h => ⟨_, (pss_cons (ps_asg (pe_def D__law_draw hr pass0 (pa_cons (pv 0) (pa_cons pe_int pa_nil))) (pg_name (i := 1) sc__law_number.nd rfl (Or.inl rfl)))
 (pss_cons (ps_asg (pe_def D__law_draw hr pass0 (pa_cons (pv 0) (pa_cons pe_int pa_nil))) (pg_name (i := 2) sc__law_number.nd rfl (Or.inl rfl)))
 (C8.pss_cut (ps_if (pt_cmpR op_eq (pv 1) pe_int (nomark _)) (pss_one (ps_asg (pe_def D__law_draw hr pass0 (pa_cons (pv 0) (pa_cons pe_int pa_nil))) (pg_name (i := 2) sc__law_number.nd rfl (Or.inl rfl)))) pss_nil)
 (C8.pss_cut (ps_if (pt_cmpR op_eq (pv 1) pe_int (nomark _)) (pss_one (ps_asg (pe_op op_mul (pe_def D__law_draw hr pass0 (pa_cons (pv 0) (pa_cons (pe_op op_pow pe_int pe_int) pa_nil))) (pe_op op_add pe_int (pe_def D__law_draw hr pass0 (pa_cons (pv 0) (pa_cons (pe_op op_pow pe_int pe_int) pa_nil))))) (pg_name (i := 2) sc__law_number.nd rfl (Or.inl rfl)))) pss_nil)
 (C8.pss_cut (ps_if (pt_cmpR op_eq (pe_def D__law_draw hr pass0 (pa_cons (pv 0) (pa_cons pe_int pa_nil))) pe_int (nomark _)) (pss_one (ps_asg (pe_un un_neg (pv 2)) (pg_name (i := 2) sc__law_number.nd rfl (Or.inl rfl)))) pss_nil)
 (pss_one (ps_ret (pv 2)))))))), fun fr Qv hret => ?_⟩)
  replace h : m__law_number Q noX := h
  unfold m__law_number at h
  refine kn_seq (kn_asg (i := 1) (we_callE (wa_cons (we_var rfl (wa_cons (we_cI (wa_nil ?_)))))))
  refine sps_KW (mk := cBag 4) (j := 0) rfl (4 : Int) h (fun v1 h => ?_)
  try dsimp only
  refine kn_seq (kn_asg (i := 2) (we_callE (wa_cons (we_var rfl (wa_cons (we_cI (wa_nil ?_)))))))
  refine sps_KW (mk := cBag 4) (j := 0) rfl (13 : Int) h (fun v2 h => ?_)
  try dsimp only
  refine kn_cutW (S := Int) (fun s3 => [some (zAt b), some (iz zI v1), some (iz zI s3)]) (fun s3 => [cBag 4 b l]) h (fun M hjn h => ?_) (fun s3 h => ?_)
  · refine kn_if (wt_test (we_op (we_var rfl (we_cI (ops_eqI (⟨_, rfl, ⟨fun hc => ?_, fun hc => ?_⟩⟩))))))
    · have h := h.1 hc
      refine kn_asg (i := 2) (we_callE (wa_cons (we_var rfl (wa_cons (we_cI (wa_nil ?_))))))
      refine sps_KW (mk := cBag 4) (j := 0) rfl (1001 : Int) h (fun v5 h => ?_)
      exact hjn v5 _ _ h (by and_intros) rfl
    · have h := h.2 hc
      refine kn_next ?_
      exact hjn v2 _ _ h (by and_intros) rfl
  try dsimp only
  refine kn_cutW (S := Int) (fun s6 => [some (zAt b), some (iz zI v1), some (iz zI s6)]) (fun s6 => [cBag 4 b l]) h (fun M hjn h => ?_) (fun s6 h => ?_)
  · refine kn_if (wt_test (we_op (we_var rfl (we_cI (ops_eqI (⟨_, rfl, ⟨fun hc => ?_, fun hc => ?_⟩⟩))))))
    · have h := h.1 hc
      refine kn_asgL (i := 2) (r := zI) (we_op (we_callE (wa_cons (we_var rfl (wa_cons (we_op (we_cI (we_cI ?_))))))))
      obtain ⟨g8, h⟩ := h
      refine ops_IC g8 (wa_nil ?_)
      refine sps_KW (mk := cBag 4) (j := 0) rfl ((10 : Int) ^ ((9 : Int)).toNat) h (fun v9 h => ?_)
      refine we_op (we_cI (we_callE (wa_cons (we_var rfl (wa_cons (we_op (we_cI (we_cI ?_))))))))
      obtain ⟨g10, h⟩ := h
      refine ops_IC g10 (wa_nil ?_)
      refine sps_KW (mk := cBag 4) (j := 0) rfl ((10 : Int) ^ ((9 : Int)).toNat) h (fun v11 h => ?_)
      refine ops_I0 ?_
      obtain ⟨g12, h⟩ := h
      refine ops_IC g12 (⟨_, rfl, fun number13 enumber13 => ?_⟩)
      have h := h number13 enumber13
      exact hjn number13 _ _ h (by and_intros) rfl
    · have h := h.2 hc
      refine kn_next ?_
      exact hjn s3 _ _ h (by and_intros) rfl
  try dsimp only
  refine kn_cutW (S := Int) (fun s14 => [some (zAt b), some (iz zI v1), some (iz zI s14)]) (fun s14 => [cBag 4 b l]) h (fun M hjn h => ?_) (fun s14 h => ?_)
  · refine kn_if (wt_test (we_op (we_callE (wa_cons (we_var rfl (wa_cons (we_cI (wa_nil ?_))))))))
    refine sps_KW (mk := cBag 4) (j := 0) rfl (2 : Int) h (fun v16 h => ?_)
    refine we_cI (ops_eqI (⟨_, rfl, ⟨fun hc => ?_, fun hc => ?_⟩⟩))
    · have h := h.1 hc
      refine kn_asgL (i := 2) (r := zI) (we_un (we_var rfl (uns_I (⟨_, rfl, fun number17 enumber17 => ?_⟩))))
      have h := h number17 enumber17
      exact hjn number17 _ _ h (by and_intros) rfl
    · have h := h.2 hc
      refine kn_next ?_
      exact hjn s6 _ _ h (by and_intros) rfl
  try dsimp only
  refine kn_ret (we_var rfl ?_)
  exact hret _ h _ (List.mem_of_getElem? (i := 0) rfl)
abbrev s__law_divisor : Stmt := topS 15
theorem sc__law_divisor : FnScope ["_law_first", "_law_second", "_law_large", "_law_small", "_law_k", "_law_rest"] ["_law_first", "_law_second"] (defScope s__law_divisor) := ⟨rfl, rfl, rfl, by decide +kernel, rfl, by decide +kernel, by decide +kernel⟩
def m__law_divisor (p_law_first : Int) (p_law_second : Int) : DM Int := fun Q X =>
  ∀ large1, large1 = (if p_law_first < 0 then -p_law_first else p_law_first) →
  ∀ small2, small2 = (if p_law_second < 0 then -p_law_second else p_law_second) →
  forD (intsF 0 ((2000 : Int)).toNat) (large1, small2) (fun x4 s3 nx bk =>
  ifD (decide (s3.2 = (0 : Int))) (
  Q s3.1) (
  s3.2 ≠ 0 ∧
  ∀ rest6, rest6 = (Int.fmod s3.1 s3.2) →
  nx (s3.2, rest6))) (fun s3 =>
  Q s3.1)
theorem ok__law_divisor {k : Nat} {cs : EK → Addr} (B : Bl mg) 
    (F : Src K mg "_law_divisor" s__law_divisor ["_law_first", "_law_second"]) : Def P w K mg base CX0 (k + 1) "_law_divisor" ["_law_first", "_law_second"] (spA (preW (erW cs) (fun x : Int × Int => [iz zI x.1, iz zI x.2]) zI (fun x => m__law_divisor x.1 x.2))) := by
  refine F.okW sc__law_divisor (fun _ => rfl) (fun f cdv A outer s H E x Q X hr h => ⟨_, (pss_cons (ps_asg (pe_callB call_abs (by rfl) B.abs (by decide +kernel) (pa_cons (pv 0) pa_nil)) (pg_name (i := 2) sc__law_divisor.nd rfl (Or.inl rfl)))
 (pss_cons (ps_asg (pe_callB call_abs (by rfl) B.abs (by decide +kernel) (pa_cons (pv 1) pa_nil)) (pg_name (i := 3) sc__law_divisor.nd rfl (Or.inl rfl)))
 (pss_cons (ps_for PassesOwn.never rfl (pi_range1 (by rfl) B.range (pa_cons pe_int pa_nil)) (pg_name (i := 4) sc__law_divisor.nd rfl (Or.inl rfl)) (pss_cons (ps_if (pt_cmpR op_eq (pv 3) pe_int (nomark _)) (pss_one (ps_ret (pv 2))) pss_nil)
 (pss_cons (ps_asg (pe_op op_modN (pe_callTy call_int1 (by rfl) B.int' (by decide +kernel) (pa_cons (pv 2) pa_nil)) (pv 3)) (pg_name (i := 5) sc__law_divisor.nd rfl (Or.inl rfl)))
 (pss_cons (ps_asg (pv 3) (pg_name (i := 2) sc__law_divisor.nd rfl (Or.inl rfl)))
 (pss_one (ps_asg (pv 5) (pg_name (i := 3) sc__law_divisor.nd rfl (Or.inl rfl))))))))
 (pss_one (ps_ret (pv 2)))))), fun fr Qv hret => ?_⟩)
  obtain ⟨p_law_first, p_law_second⟩ := x
  replace h : m__law_divisor p_law_first p_law_second Q X := h
  unfold m__law_divisor at h
  refine kn_seq (kn_asgL (i := 2) (r := zI) (we_cb (wa_cons (we_var rfl (wa_nil (cb_abs (⟨_, rfl, fun large1 elarge1 => ?_⟩)))))))
  have h := h large1 elarge1
  try dsimp only
  refine kn_seq (kn_asgL (i := 3) (r := zI) (we_cb (wa_cons (we_var rfl (wa_nil (cb_abs (⟨_, rfl, fun small2 esmall2 => ?_⟩)))))))
  have h := h small2 esmall2
  try dsimp only
  refine kn_seq (kn_forW (r := zI) (S := Int × Int) (fun s3 => [some (iz zI p_law_first), some (iz zI p_law_second), some (iz zI s3.1), some (iz zI s3.2), none, none]) (fun s3 => []) (large1, small2) (wi_range (wa_cons (we_cI (wa_nil (⟨_, rfl, (by have hb : big = 100000 := rfl; omega), (by have hb : big = 100000 := rfl; omega), ⟨_, _, _, _, _, rfl, rfl, (by and_intros), fun _ _ => tg_name, h, fun fr' le x4 s3 nx M hnx hbk h => ?_, fun s3 h => ?_⟩⟩))))))
  · have hret := hret.fine le
    refine kn_seq (kn_if (wt_test (we_op (we_var rfl (we_cI (ops_eqI (⟨_, rfl, ⟨fun hc => ?_, fun hc => ?_⟩⟩)))))))
    · have h := h.1 hc
      refine kn_ret (we_var rfl ?_)
      exact hret _ h _
    · have h := h.2 hc
      refine kn_next ?_
      try dsimp only
      refine kn_seq (kn_asgL (i := 5) (r := zI) (we_op (we_cb (wa_cons (we_var rfl (wa_nil (cb_int (we_var rfl ?_))))))))
      obtain ⟨g5, h⟩ := h
      refine ops_IC (C := fun _ j => j ≠ 0) g5 (⟨_, rfl, fun rest6 erest6 => ?_⟩)
      have h := h rest6 erest6
      try dsimp only
      refine kn_seq (kn_asg (i := 2) (we_var rfl ?_))
      try dsimp only
      refine kn_asg (i := 3) (we_var rfl ?_)
      exact hnx (s3.2, rest6) _ _ h (by and_intros) rfl
  try dsimp only
  refine kn_ret (we_var rfl ?_)
  exact hret _ h _
abbrev s__law_int : Stmt := topS 16
theorem sc__law_int : FnScope ["_law_told"] ["_law_told"] (defScope s__law_int) := ⟨rfl, rfl, rfl, by decide +kernel, rfl, by decide +kernel, by decide +kernel⟩
def m__law_int (p_law_told : Int) : DM Bool := fun Q X =>
  Q (true && (!false))
theorem ok__law_int {k : Nat} {cs : EK → Addr} (B : Bl mg) 
    (F : Src K mg "_law_int" s__law_int ["_law_told"]) : Def P w K mg base CX0 (k + 1) "_law_int" ["_law_told"] (spA (preW (erW cs) (fun x : Int => [iz zI x]) zB (fun x => m__law_int x))) := by
  refine F.okW sc__law_int (fun _ => rfl) (fun f cdv A outer s H E p_law_told Q X hr h => ⟨_, (pss_one (ps_ret (pe_and (pe_callB (kcall_isi (K := K)) (by rfl) B.isinstance (by decide +kernel) (pa_cons (pv 0) (pa_cons (pe_bltn (v := .ty "int") (by rfl) B.int' (by decide +kernel) rfl) pa_nil))) (pe_one (pe_not (pe_callB (kcall_isi (K := K)) (by rfl) B.isinstance (by decide +kernel) (pa_cons (pv 0) (pa_cons (pe_bltn (v := .ty "bool") (by rfl) B.bool' (by decide +kernel) rfl) pa_nil)))))))), fun fr Qv hret => ?_⟩)
  replace h : m__law_int p_law_told Q X := h
  unfold m__law_int at h
  refine kn_ret (we_andP (we_cb (wa_cons (we_var rfl (wa_cons (we_cT (wa_nil (cb_isi ty_I (show kitB "int" "int" = some true by decide +kernel) (⟨_, _, rfl, fun _ => we_not (we_cb (wa_cons (we_var rfl (wa_cons (we_cT (wa_nil (cb_isi ty_I (show kitB "int" "bool" = some false by decide +kernel) (⟨_, rfl, ⟨rfl, rfl⟩⟩)))))))), ?_⟩)))))))))
  exact hret _ h _
abbrev s__law_ratio : Stmt := topS 17
theorem sc__law_ratio : FnScope ["_law_told", "_law_top", "_law_bottom"] ["_law_told", "_law_top", "_law_bottom"] (defScope s__law_ratio) := ⟨rfl, rfl, rfl, by decide +kernel, rfl, by decide +kernel, by decide +kernel⟩
def m__law_ratio (p_law_told : (Int × Int)) (p_law_top : Int) (p_law_bottom : Int) : DM Bool := fun Q X =>
  orD (!true) (fun k2 => m__law_int p_law_told.1 (fun v3 =>
  orD (!v3) (fun k5 => m__law_int p_law_told.2 (fun v6 =>
  k5 (!v6)) noX) (fun c4 =>
  k2 c4)) noX) (fun c1 =>
  ifD c1 (
  Q false) (
  orD (decide (p_law_told.2 < (1 : Int))) (fun k8 => m__law_divisor p_law_told.1 p_law_told.2 (fun v9 =>
  k8 (!decide (v9 = (1 : Int)))) noX) (fun c7 =>
  ifD c7 (
  Q false) (
  CMulW p_law_told.1 p_law_bottom ∧
  CMulW p_law_top p_law_told.2 ∧
  Q (decide ((p_law_told.1 * p_law_bottom) = (p_law_top * p_law_told.2)))))))
theorem ok__law_ratio {k : Nat} {cs : EK → Addr} {C_Ratio : Addr} (B : Bl mg) (T_Ratio : ClsA K mg C_Ratio "Ratio" ["top", "bottom"]) (D__law_int : Def P w K mg base CX0 k "_law_int" ["_law_told"] (spA (preW (erW cs) (fun x : Int => [iz zI x]) zB (fun x => m__law_int x)))) (D__law_divisor : Def P w K mg base CX0 k "_law_divisor" ["_law_first", "_law_second"] (spA (preW (erW cs) (fun x : Int × Int => [iz zI x.1, iz zI x.2]) zI (fun x => m__law_divisor x.1 x.2))))
    (F : Src K mg "_law_ratio" s__law_ratio ["_law_told", "_law_top", "_law_bottom"]) : Def P w K mg base CX0 (k + 1) "_law_ratio" ["_law_told", "_law_top", "_law_bottom"] (spA (preW (erW cs) (fun x : (Int × Int) × Int × Int => [iz (zRatio C_Ratio) x.1, iz zI x.2.1, iz zI x.2.2]) zB (fun x => m__law_ratio x.1 x.2.1 x.2.2))) := by
  refine F.okW sc__law_ratio (fun _ => rfl) (fun f cdv A outer s H E x Q X hr h => ⟨_, (pss_cons (ps_if (PW.pt (pw_or (pt_not (pt_val (pe_callB (kcall_isi (K := K)) (by rfl) B.isinstance (by decide +kernel) (pa_cons (pv 0) (pa_cons (pe_glo T_Ratio.glo) pa_nil))))) (pw_or (pt_not (pt_val (pe_def D__law_int hr pass0 (pa_cons (kpe_fld (K := K) (pv 0)) pa_nil)))) (pw_or1 (pt_not (pt_val (pe_def D__law_int hr pass0 (pa_cons (kpe_fld (K := K) (pv 0)) pa_nil)))))))) (pss_one (ps_ret pe_bl)) pss_nil)
 (pss_cons (ps_if (PW.pt (pw_or (pt_cmpR op_lt (kpe_fld (K := K) (pv 0)) pe_int (nomark _)) (pw_or1 (pt_cmpR op_ne (pe_def D__law_divisor hr pass0 (pa_cons (kpe_fld (K := K) (pv 0)) (pa_cons (kpe_fld (K := K) (pv 0)) pa_nil))) pe_int (nomark _))))) (pss_one (ps_ret pe_bl)) pss_nil)
 (pss_one (ps_ret (pe_cmpR op_eq (pe_op op_mulW (kpe_fld (K := K) (pv 0)) (pv 2)) (pe_op op_mulW (pv 1) (kpe_fld (K := K) (pv 0))) (nomark _)))))), fun fr Qv hret => ?_⟩)
  obtain ⟨p_law_told, p_law_top, p_law_bottom⟩ := x
  replace h : m__law_ratio p_law_told p_law_top p_law_bottom Q X := h
  unfold m__law_ratio at h
  refine kn_seq (kn_if (wt_orC (wt_not (wt_b (we_cb (wa_cons (we_var rfl (wa_cons (we_cA (wa_nil (cb_isO T_Ratio.io insC_in T_Ratio.k1 (⟨_, rfl, ?_⟩))))))))))))
  refine orK h (fun h => ?_) (fun c1 h => ?_)
  · refine wt_orC (wt_not (wt_b (we_callE (wa_cons (we_fld (we_var rfl (⟨_, fld_in T_Ratio.toClsF (by decide) rfl, wa_nil ?_⟩)))))))
    refine sps_W0 p_law_told.1 h (fun v3 h => ?_)
    refine ⟨_, rfl, ?_⟩
    refine orK h (fun h => ?_) (fun c4 h => ?_)
    · refine wt_not (wt_b (we_callE (wa_cons (we_fld (we_var rfl (⟨_, fld_in T_Ratio.toClsF (by decide) rfl, wa_nil ?_⟩))))))
      refine sps_W0 p_law_told.2 h (fun v6 h => ?_)
      refine ⟨_, rfl, ?_⟩
      exact ⟨rfl, h⟩
    exact ⟨rfl, h⟩
  refine ⟨fun hc => ?_, fun hc => ?_⟩
  · have h := h.1 hc
    refine kn_ret (we_cB ?_)
    exact hret _ h _
  · have h := h.2 hc
    refine kn_next ?_
    try dsimp only
    refine kn_seq (kn_if (wt_orC (wt_test (we_op (we_fld (we_var rfl (⟨_, fld_in T_Ratio.toClsF (by decide) rfl, we_cI (ops_B0 (⟨_, rfl, ?_⟩))⟩)))))))
    refine orK h (fun h => ?_) (fun c7 h => ?_)
    · refine wt_test (we_op (we_callE (wa_cons (we_fld (we_var rfl (⟨_, fld_in T_Ratio.toClsF (by decide) rfl, wa_cons (we_fld (we_var rfl (⟨_, fld_in T_Ratio.toClsF (by decide) rfl, wa_nil ?_⟩)))⟩))))))
      refine sps_W0 (p_law_told.1, p_law_told.2) h (fun v9 h => ?_)
      refine we_cI (ops_neI (⟨_, rfl, ?_⟩))
      exact ⟨rfl, h⟩
    refine ⟨fun hc => ?_, fun hc => ?_⟩
    · have h := h.1 hc
      refine kn_ret (we_cB ?_)
      exact hret _ h _
    · have h := h.2 hc
      refine kn_next ?_
      try dsimp only
      refine kn_ret (we_op (we_op (we_fld (we_var rfl (⟨_, fld_in T_Ratio.toClsF (by decide) rfl, we_var rfl ?_⟩)))))
      obtain ⟨g10, h⟩ := h
      refine ops_IC g10 (we_op (we_var rfl (we_fld (we_var rfl (⟨_, fld_in T_Ratio.toClsF (by decide) rfl, ?_⟩)))))
      obtain ⟨g11, h⟩ := h
      refine ops_IC g11 (ops_eqI ?_)
      exact hret _ h _
end

/-! ## plan0w -/
def spLaw (K : PySem.W.Frag) : Sp := fun vs H Q _ => ∃ (a : Addr) (ns : List Int), vs = [.ref a] ∧ SqL K H a (ns.map V.int) ∧ ns.length ≤ 63 ∧ ∀ H', Q (.bl true) H'

/-! ## k07 -/
section
variable {P : Program} {w : World} {K : PySem.W.Frag} {mg : Str → Option Value} {base : Heap}
abbrev s__law_pair : Stmt := topS 18
theorem sc__law_pair : FnScope ["_law_bag_here", "_law_top", "_law_bottom"] ["_law_bag_here"] (defScope s__law_pair) := ⟨rfl, rfl, rfl, by decide +kernel, rfl, by decide +kernel, by decide +kernel⟩
def m__law_pair  : DM (Int × Int) := fun Q X =>
  m__law_number  (fun v1 =>
  m__law_number  (fun v2 =>
  joinD (fun j4 =>
  ifD (decide (v2 = (0 : Int))) (
  j4 (1 : Int)) (
  j4 v2)) (fun s3 : Int =>
  ifD (decide (s3 < (0 : Int))) (
  Q ((-v1), (-s3))) (
  Q (v1, s3)))) noX) noX
theorem ok__law_pair {k : Nat} {cs : EK → Addr} (B : Bl mg) (D__law_number : Def P w K mg base CX0 k "_law_number" ["_law_bag_here"] (spC (preK (cBag 4) (preBW (fun x : Unit => []) zI (fun x => m__law_number)))))
    (F : Src K mg "_law_pair" s__law_pair ["_law_bag_here"]) : Def P w K mg base CX0 (k + 1) "_law_pair" ["_law_bag_here"] (spC (preK (cBag 4) (preBW (fun x : Unit => []) (zLp zI zI) (fun x => m__law_pair)))) := by
  refine F.okKW (fun _ _ => rfl) sc__law_pair (fun _ => rfl) (fun f cdv A outer s H E b l x Q hr h => ⟨_, (pss_cons (ps_asg (pe_def D__law_number hr pass0 (pa_cons (pv 0) pa_nil)) (pg_name (i := 1) sc__law_pair.nd rfl (Or.inl rfl)))
 (pss_cons (ps_asg (pe_def D__law_number hr pass0 (pa_cons (pv 0) pa_nil)) (pg_name (i := 2) sc__law_pair.nd rfl (Or.inl rfl)))
 (C8.pss_cut (ps_if (pt_cmpR op_eq (pv 2) pe_int (nomark _)) (pss_one (ps_asg pe_int (pg_name (i := 2) sc__law_pair.nd rfl (Or.inl rfl)))) pss_nil)
 (pss_cons (ps_if (pt_cmpR op_lt (pv 2) pe_int (nomark _)) (pss_one (ps_ret (pe_lst (pa_cons (pe_un un_neg (pv 1)) (pa_cons (pe_un un_neg (pv 2)) pa_nil))))) pss_nil)
 (pss_one (ps_ret (pe_lst (pa_cons (pv 1) (pa_cons (pv 2) pa_nil))))))))), fun fr Qv hret => ?_⟩)
  replace h : m__law_pair Q noX := h
  unfold m__law_pair at h
  refine kn_seq (kn_asg (i := 1) (we_callE (wa_cons (we_var rfl (wa_nil ?_)))))
  refine sps_KW (mk := cBag 4) (j := 0) rfl () h (fun v1 h => ?_)
  try dsimp only
  refine kn_seq (kn_asg (i := 2) (we_callE (wa_cons (we_var rfl (wa_nil ?_)))))
  refine sps_KW (mk := cBag 4) (j := 0) rfl () h (fun v2 h => ?_)
  try dsimp only
  refine kn_cutW (S := Int) (fun s3 => [some (zAt b), some (iz zI v1), some (iz zI s3)]) (fun s3 => [cBag 4 b l]) h (fun M hjn h => ?_) (fun s3 h => ?_)
  · refine kn_if (wt_test (we_op (we_var rfl (we_cI (ops_eqI (⟨_, rfl, ⟨fun hc => ?_, fun hc => ?_⟩⟩))))))
    · have h := h.1 hc
      refine kn_asg (i := 2) (we_cI ?_)
      exact hjn (1 : Int) _ _ h (by and_intros) rfl
    · have h := h.2 hc
      refine kn_next ?_
      exact hjn v2 _ _ h (by and_intros) rfl
  try dsimp only
  refine kn_seq (kn_if (wt_test (we_op (we_var rfl (we_cI (ops_B0 (⟨_, rfl, ⟨fun hc => ?_, fun hc => ?_⟩⟩)))))))
  · have h := h.1 hc
    refine kn_ret (we_lstp (r := zI) (s := zI) (wa_cons (we_un (we_var rfl (uns_I (wa_cons (we_un (we_var rfl (uns_I (wa_nil (⟨_, _, rfl, ?_⟩)))))))))))
    exact hret _ h _ (List.mem_of_getElem? (i := 0) rfl)
  · have h := h.2 hc
    refine kn_next ?_
    try dsimp only
    refine kn_ret (we_lstp (r := zI) (s := zI) (wa_cons (we_var rfl (wa_cons (we_var rfl (wa_nil (⟨_, _, rfl, ?_⟩)))))))
    exact hret _ h _ (List.mem_of_getElem? (i := 0) rfl)
abbrev s__law_over : Stmt := topS 19
theorem sc__law_over : FnScope ["_law_one", "_law_two_here", "_law_told", "e"] ["_law_one", "_law_two_here"] (defScope s__law_over) := ⟨rfl, rfl, rfl, by decide +kernel, rfl, by decide +kernel, by decide +kernel⟩
def m__law_over (p_law_one : (Int × Int)) (p_law_two_here : ((Int × Int) ⊕ Int)) : DM (Option ((Int × Int) ⊕ (Str × Int))) := fun Q X =>
  joinD (fun j2 =>
  tryD (fun e => match e with
  | .badNumber y6 => ∀ told9, told9 = (some ((.inr (("BadNumber" : Str), y6)) : ((Int × Int) ⊕ (Str × Int)))) →
  j2 told9
  | e => noX e) (fun X3 =>
  m_Ratio_over p_law_one p_law_two_here (fun v4 =>
  ∀ told10, told10 = (some ((.inl v4) : ((Int × Int) ⊕ (Str × Int)))) →
  j2 told10) X3)) (fun s1 : (Option ((Int × Int) ⊕ (Str × Int))) =>
  Q s1)
theorem ok__law_over {k : Nat} {cs : EK → Addr} {f_BadNumber C_Ratio : Addr} (B : Bl mg) (T_Ratio : ClsA K mg C_Ratio "Ratio" ["top", "bottom"]) (DM_Ratio_over : DefM P w K mg base (L2.CX P w) k C_Ratio "over" ["self", "other"] (spA (preW (erW cs) (fun x : (Int × Int) × ((Int × Int) ⊕ Int) => [iz (zRatio C_Ratio) x.1, iz (yU (zRatio C_Ratio) zI) x.2]) (zRatio C_Ratio) (fun x => m_Ratio_over x.1 x.2)))) (X_BadNumber : ErrTxt P K mg false "BadNumber" (cs .badNumber) f_BadNumber ["number"])
    (F : Src K mg "_law_over" s__law_over ["_law_one", "_law_two_here"]) : Def P w K mg base CX0 (k + 1) "_law_over" ["_law_one", "_law_two_here"] (spA (preW (erW cs) (fun x : (Int × Int) × ((Int × Int) ⊕ Int) => [iz (zRatio C_Ratio) x.1, iz (yU (zRatio C_Ratio) zI) x.2]) (yO (yU (zRatio C_Ratio) (z2 yS zI))) (fun x => m__law_over x.1 x.2))) := by
  refine F.okW sc__law_over (fun _ => rfl) (fun f cdv A outer s H E x Q X hr h => ⟨_, (pss_cons (ps_asg pe_non (pg_name (i := 2) sc__law_over.nd rfl (Or.inl rfl)))
 (C8.pss_cut (ps_try_as (i := 3) rfl rfl sc__law_over.nd rfl rfl ⟨rfl, by decide, .inl X_BadNumber.gC⟩ takes0 (fun W pn xe tk _ => (pss_one (ps_asg (pe_metD DM_Ratio_over T_Ratio.cl hr (fun σ => passAt tk σ) (pv 0) (pa_cons (pv 1) pa_nil)) (pg_name (i := 2) sc__law_over.nd rfl (Or.inl rfl))))) (fun a oe cls d pn hz hf => (pss_one (ps_asg (pe_tup (pa_cons pe_str (pa_cons (pe_xf X_BadNumber.xf (X_BadNumber.noN _ (by decide)) hz hf (pv 3)) pa_nil))) (pg_name (i := 2) sc__law_over.nd rfl (Or.inl rfl))))))
 (pss_one (ps_ret (pv 2))))), fun fr Qv hret => ?_⟩)
  obtain ⟨p_law_one, p_law_two_here⟩ := x
  replace h : m__law_over p_law_one p_law_two_here Q X := h
  unfold m__law_over at h
  refine kn_seq (kn_asg (i := 2) (We.conv (we_cNy (⟨_, (le_On (r := (yU (zRatio C_Ratio) (z2 yS zI)))), ?_⟩))))
  try dsimp only
  refine kn_cutW (S := (Option ((Int × Int) ⊕ (Str × Int)))) (fun s1 => [some (iz (zRatio C_Ratio) p_law_one), some (iz (yU (zRatio C_Ratio) zI) p_law_two_here), some (iz (yO (yU (zRatio C_Ratio) (z2 yS zI))) s1), none]) (fun s1 => []) h (fun M hjn h => ?_) (fun s1 h => ?_)
  · replace h := tryD.go h
    try dsimp only
    refine kn_asgL (i := 2) (r := (yO (yU (zRatio C_Ratio) (z2 yS zI)))) (We.conv (we_met (we_var rfl (⟨ins_in rfl, wa_cons (we_var rfl (wa_nil ?_))⟩))))
    refine sps_WT (p_law_one, p_law_two_here) h (fun z5 h => ?_) (fun v4 h => ?_)
    · cases z5 with
      | badNumber y6 =>
        try dsimp only at h
        refine kr_as X_BadNumber.te fun a7 d8 => ?_
        try dsimp only
        refine kn_asgL (i := 2) (r := (yO (yU (zRatio C_Ratio) (z2 yS zI)))) (We.conv (we_tup (wa_cons (we_cSy (z := "BadNumber") (asc_of (by decide)) (by decide) (wa_cons (we_xf (we_var rfl (⟨rfl, rfl, wa_nil (⟨Nat.le_of_ble_eq_true rfl, iz (z2 yS zI) (("BadNumber" : Str), y6), tr2, ⟨_, (show Vp.Le (iz (z2 yS zI) (("BadNumber" : Str), y6)) (iz (yO (yU (zRatio C_Ratio) (z2 yS zI))) (some ((.inr (("BadNumber" : Str), y6)) : ((Int × Int) ⊕ (Str × Int))))) from fun F v h => ((show Vp.Le (iz (z2 yS zI) (("BadNumber" : Str), y6)) (iz (yU (zRatio C_Ratio) (z2 yS zI)) ((.inr (("BadNumber" : Str), y6)) : ((Int × Int) ⊕ (Str × Int)))) from fun F v h => h) : Vp.Le (iz (z2 yS zI) _) (iz (yU (zRatio C_Ratio) (z2 yS zI)) _)) F v h), ⟨_, rfl, fun told9 etold9 => ?_⟩⟩⟩)⟩))))))))
        have h := h told9 etold9
        refine kn_suite ?_
        try dsimp only
        exact hjn told9 _ _ h (by and_intros) rfl
      | _ => exact (show False from h).elim
    refine ⟨_, (show Vp.Le (iz (zRatio C_Ratio) v4) (iz (yO (yU (zRatio C_Ratio) (z2 yS zI))) (some ((.inl v4) : ((Int × Int) ⊕ (Str × Int))))) from fun F v h => ((show Vp.Le (iz (zRatio C_Ratio) v4) (iz (yU (zRatio C_Ratio) (z2 yS zI)) ((.inl v4) : ((Int × Int) ⊕ (Str × Int)))) from fun F v h => h) : Vp.Le (iz (zRatio C_Ratio) _) (iz (yU (zRatio C_Ratio) (z2 yS zI)) _)) F v h), ⟨_, rfl, fun told10 etold10 => ?_⟩⟩
    have h := h told10 etold10
    exact hjn told10 _ _ h (by and_intros) rfl
  try dsimp only
  refine kn_ret (We.conv (we_var rfl (⟨_, Vp.Le.refl _, ?_⟩)))
  exact hret _ h _
abbrev s__law_floor : Stmt := topS 20
theorem sc__law_floor : FnScope ["_law_one", "_law_two_here", "_law_told", "e"] ["_law_one", "_law_two_here"] (defScope s__law_floor) := ⟨rfl, rfl, rfl, by decide +kernel, rfl, by decide +kernel, by decide +kernel⟩
def m__law_floorR (p_law_one : (Int × Int)) (p_law_two_here : (Int × Int)) : DM (Option (Int ⊕ (Str × Int))) := fun Q X =>
  joinD (fun j2 =>
  tryD (fun e => match e with
  | .badNumber y6 => ∀ told9, told9 = (some ((.inr (("BadNumber" : Str), y6)) : (Int ⊕ (Str × Int)))) →
  j2 told9
  | e => noX e) (fun X3 =>
  m_Ratio___floordiv__ p_law_one (.inl p_law_two_here : ((Int × Int) ⊕ Int)) (fun v4 =>
  ∀ told10, told10 = (some ((.inl v4) : (Int ⊕ (Str × Int)))) →
  j2 told10) X3)) (fun s1 : (Option (Int ⊕ (Str × Int))) =>
  Q s1)
theorem ok__law_floorR {k : Nat} {cs : EK → Addr} {f_BadNumber C_Ratio : Addr} (B : Bl mg) (DM_Ratio___floordiv__ : DefM P w K mg base (L2.CX P w) k C_Ratio "__floordiv__" ["self", "other"] (spA (preW (erW cs) (fun x : (Int × Int) × ((Int × Int) ⊕ Int) => [iz (zRatio C_Ratio) x.1, iz (yU (zRatio C_Ratio) zI) x.2]) zI (fun x => m_Ratio___floordiv__ x.1 x.2)))) (OC_Ratio_floordiv : OpC K C_Ratio "floordiv") (X_BadNumber : ErrTxt P K mg false "BadNumber" (cs .badNumber) f_BadNumber ["number"])
    (F : Src K mg "_law_floor" s__law_floor ["_law_one", "_law_two_here"]) : Def P w K mg base CX0 (k + 1) "_law_floor" ["_law_one", "_law_two_here"] (spA (preW (erW cs) (fun x : (Int × Int) × (Int × Int) => [iz (zRatio C_Ratio) x.1, iz (zRatio C_Ratio) x.2]) (yO (yU zI (z2 yS zI))) (fun x => m__law_floorR x.1 x.2))) := by
  refine F.okW sc__law_floor (fun _ => rfl) (fun f cdv A outer s H E x Q X hr h => ⟨_, (pss_cons (ps_asg pe_non (pg_name (i := 2) sc__law_floor.nd rfl (Or.inl rfl)))
 (C8.pss_cut (ps_try_as (i := 3) rfl rfl sc__law_floor.nd rfl rfl ⟨rfl, by decide, .inl X_BadNumber.gC⟩ takes0 (fun W pn xe tk _ => (pss_one (ps_asg (pe_bin2 (op := .FloorDiv) (R := fun _ => True) DM_Ratio___floordiv__ OC_Ratio_floordiv hr (fun σ => passAt tk σ) (pv 0) (pv 1)) (pg_name (i := 2) sc__law_floor.nd rfl (Or.inl rfl))))) (fun a oe cls d pn hz hf => (pss_one (ps_asg (pe_tup (pa_cons pe_str (pa_cons (pe_xf X_BadNumber.xf (X_BadNumber.noN _ (by decide)) hz hf (pv 3)) pa_nil))) (pg_name (i := 2) sc__law_floor.nd rfl (Or.inl rfl))))))
 (pss_one (ps_ret (pv 2))))), fun fr Qv hret => ?_⟩)
  obtain ⟨p_law_one, p_law_two_here⟩ := x
  replace h : m__law_floorR p_law_one p_law_two_here Q X := h
  unfold m__law_floorR at h
  refine kn_seq (kn_asg (i := 2) (We.conv (we_cNy (⟨_, (le_On (r := (yU zI (z2 yS zI)))), ?_⟩))))
  try dsimp only
  refine kn_cutW (S := (Option (Int ⊕ (Str × Int)))) (fun s1 => [some (iz (zRatio C_Ratio) p_law_one), some (iz (zRatio C_Ratio) p_law_two_here), some (iz (yO (yU zI (z2 yS zI))) s1), none]) (fun s1 => []) h (fun M hjn h => ?_) (fun s1 h => ?_)
  · replace h := tryD.go h
    try dsimp only
    refine kn_asgL (i := 2) (r := (yO (yU zI (z2 yS zI)))) (We.conv (we_sp2 (we_var rfl (we_var rfl (⟨insC_in, (rg_C insC_in), ?_⟩)))))
    refine sps_WT (p_law_one, (.inl p_law_two_here : ((Int × Int) ⊕ Int))) h (fun z5 h => ?_) (fun v4 h => ?_)
    · cases z5 with
      | badNumber y6 =>
        try dsimp only at h
        refine kr_as X_BadNumber.te fun a7 d8 => ?_
        try dsimp only
        refine kn_asgL (i := 2) (r := (yO (yU zI (z2 yS zI)))) (We.conv (we_tup (wa_cons (we_cSy (z := "BadNumber") (asc_of (by decide)) (by decide) (wa_cons (we_xf (we_var rfl (⟨rfl, rfl, wa_nil (⟨Nat.le_of_ble_eq_true rfl, iz (z2 yS zI) (("BadNumber" : Str), y6), tr2, ⟨_, (show Vp.Le (iz (z2 yS zI) (("BadNumber" : Str), y6)) (iz (yO (yU zI (z2 yS zI))) (some ((.inr (("BadNumber" : Str), y6)) : (Int ⊕ (Str × Int))))) from fun F v h => ((show Vp.Le (iz (z2 yS zI) (("BadNumber" : Str), y6)) (iz (yU zI (z2 yS zI)) ((.inr (("BadNumber" : Str), y6)) : (Int ⊕ (Str × Int)))) from fun F v h => h) : Vp.Le (iz (z2 yS zI) _) (iz (yU zI (z2 yS zI)) _)) F v h), ⟨_, rfl, fun told9 etold9 => ?_⟩⟩⟩)⟩))))))))
        have h := h told9 etold9
        refine kn_suite ?_
        try dsimp only
        exact hjn told9 _ _ h (by and_intros) rfl
      | _ => exact (show False from h).elim
    refine ⟨rp_T, ⟨_, (show Vp.Le (iz zI v4) (iz (yO (yU zI (z2 yS zI))) (some ((.inl v4) : (Int ⊕ (Str × Int))))) from fun F v h => ((show Vp.Le (iz zI v4) (iz (yU zI (z2 yS zI)) ((.inl v4) : (Int ⊕ (Str × Int)))) from fun F v h => h) : Vp.Le (iz zI _) (iz (yU zI (z2 yS zI)) _)) F v h), ⟨_, rfl, fun told10 etold10 => ?_⟩⟩⟩
    have h := h told10 etold10
    exact hjn told10 _ _ h (by and_intros) rfl
  try dsimp only
  refine kn_ret (We.conv (we_var rfl (⟨_, Vp.Le.refl _, ?_⟩)))
  exact hret _ h _
def m__law_floorI (p_law_one : (Int × Int)) (p_law_two_here : Int) : DM (Option (Int ⊕ (Str × Int))) := fun Q X =>
  joinD (fun j2 =>
  tryD (fun e => match e with
  | .badNumber y6 => ∀ told9, told9 = (some ((.inr (("BadNumber" : Str), y6)) : (Int ⊕ (Str × Int)))) →
  j2 told9
  | e => noX e) (fun X3 =>
  m_Ratio___floordiv__ p_law_one (.inr p_law_two_here : ((Int × Int) ⊕ Int)) (fun v4 =>
  ∀ told10, told10 = (some ((.inl v4) : (Int ⊕ (Str × Int)))) →
  j2 told10) X3)) (fun s1 : (Option (Int ⊕ (Str × Int))) =>
  Q s1)
theorem ok__law_floorI {k : Nat} {cs : EK → Addr} {f_BadNumber C_Ratio : Addr} (B : Bl mg) (DM_Ratio___floordiv__ : DefM P w K mg base (L2.CX P w) k C_Ratio "__floordiv__" ["self", "other"] (spA (preW (erW cs) (fun x : (Int × Int) × ((Int × Int) ⊕ Int) => [iz (zRatio C_Ratio) x.1, iz (yU (zRatio C_Ratio) zI) x.2]) zI (fun x => m_Ratio___floordiv__ x.1 x.2)))) (OC_Ratio_floordiv : OpC K C_Ratio "floordiv") (X_BadNumber : ErrTxt P K mg false "BadNumber" (cs .badNumber) f_BadNumber ["number"])
    (F : Src K mg "_law_floor" s__law_floor ["_law_one", "_law_two_here"]) : Def P w K mg base CX0 (k + 1) "_law_floor" ["_law_one", "_law_two_here"] (spA (preW (erW cs) (fun x : (Int × Int) × Int => [iz (zRatio C_Ratio) x.1, iz zI x.2]) (yO (yU zI (z2 yS zI))) (fun x => m__law_floorI x.1 x.2))) := by
  refine F.okW sc__law_floor (fun _ => rfl) (fun f cdv A outer s H E x Q X hr h => ⟨_, (pss_cons (ps_asg pe_non (pg_name (i := 2) sc__law_floor.nd rfl (Or.inl rfl)))
 (C8.pss_cut (ps_try_as (i := 3) rfl rfl sc__law_floor.nd rfl rfl ⟨rfl, by decide, .inl X_BadNumber.gC⟩ takes0 (fun W pn xe tk _ => (pss_one (ps_asg (pe_bin2 (op := .FloorDiv) (R := fun _ => True) DM_Ratio___floordiv__ OC_Ratio_floordiv hr (fun σ => passAt tk σ) (pv 0) (pv 1)) (pg_name (i := 2) sc__law_floor.nd rfl (Or.inl rfl))))) (fun a oe cls d pn hz hf => (pss_one (ps_asg (pe_tup (pa_cons pe_str (pa_cons (pe_xf X_BadNumber.xf (X_BadNumber.noN _ (by decide)) hz hf (pv 3)) pa_nil))) (pg_name (i := 2) sc__law_floor.nd rfl (Or.inl rfl))))))
 (pss_one (ps_ret (pv 2))))), fun fr Qv hret => ?_⟩)
  obtain ⟨p_law_one, p_law_two_here⟩ := x
  replace h : m__law_floorI p_law_one p_law_two_here Q X := h
  unfold m__law_floorI at h
  refine kn_seq (kn_asg (i := 2) (We.conv (we_cNy (⟨_, (le_On (r := (yU zI (z2 yS zI)))), ?_⟩))))
  try dsimp only
  refine kn_cutW (S := (Option (Int ⊕ (Str × Int)))) (fun s1 => [some (iz (zRatio C_Ratio) p_law_one), some (iz zI p_law_two_here), some (iz (yO (yU zI (z2 yS zI))) s1), none]) (fun s1 => []) h (fun M hjn h => ?_) (fun s1 h => ?_)
  · replace h := tryD.go h
    try dsimp only
    refine kn_asgL (i := 2) (r := (yO (yU zI (z2 yS zI)))) (We.conv (we_sp2 (we_var rfl (we_var rfl (⟨insC_in, rg_I, ?_⟩)))))
    refine sps_WT (p_law_one, (.inr p_law_two_here : ((Int × Int) ⊕ Int))) h (fun z5 h => ?_) (fun v4 h => ?_)
    · cases z5 with
      | badNumber y6 =>
        try dsimp only at h
        refine kr_as X_BadNumber.te fun a7 d8 => ?_
        try dsimp only
        refine kn_asgL (i := 2) (r := (yO (yU zI (z2 yS zI)))) (We.conv (we_tup (wa_cons (we_cSy (z := "BadNumber") (asc_of (by decide)) (by decide) (wa_cons (we_xf (we_var rfl (⟨rfl, rfl, wa_nil (⟨Nat.le_of_ble_eq_true rfl, iz (z2 yS zI) (("BadNumber" : Str), y6), tr2, ⟨_, (show Vp.Le (iz (z2 yS zI) (("BadNumber" : Str), y6)) (iz (yO (yU zI (z2 yS zI))) (some ((.inr (("BadNumber" : Str), y6)) : (Int ⊕ (Str × Int))))) from fun F v h => ((show Vp.Le (iz (z2 yS zI) (("BadNumber" : Str), y6)) (iz (yU zI (z2 yS zI)) ((.inr (("BadNumber" : Str), y6)) : (Int ⊕ (Str × Int)))) from fun F v h => h) : Vp.Le (iz (z2 yS zI) _) (iz (yU zI (z2 yS zI)) _)) F v h), ⟨_, rfl, fun told9 etold9 => ?_⟩⟩⟩)⟩))))))))
        have h := h told9 etold9
        refine kn_suite ?_
        try dsimp only
        exact hjn told9 _ _ h (by and_intros) rfl
      | _ => exact (show False from h).elim
    refine ⟨rp_T, ⟨_, (show Vp.Le (iz zI v4) (iz (yO (yU zI (z2 yS zI))) (some ((.inl v4) : (Int ⊕ (Str × Int))))) from fun F v h => ((show Vp.Le (iz zI v4) (iz (yU zI (z2 yS zI)) ((.inl v4) : (Int ⊕ (Str × Int)))) from fun F v h => h) : Vp.Le (iz zI _) (iz (yU zI (z2 yS zI)) _)) F v h), ⟨_, rfl, fun told10 etold10 => ?_⟩⟩⟩
    have h := h told10 etold10
    exact hjn told10 _ _ h (by and_intros) rfl
  try dsimp only
  refine kn_ret (We.conv (we_var rfl (⟨_, Vp.Le.refl _, ?_⟩)))
  exact hret _ h _
def m__law_floorJ (p_law_one : Int) (p_law_two_here : (Int × Int)) : DM (Option (Int ⊕ (Str × Int))) := fun Q X =>
  joinD (fun j2 =>
  tryD (fun e => match e with
  | .badNumber y6 => ∀ told9, told9 = (some ((.inr (("BadNumber" : Str), y6)) : (Int ⊕ (Str × Int)))) →
  j2 told9
  | e => noX e) (fun X3 =>
  m_Ratio___rfloordiv__ p_law_two_here p_law_one (fun v4 =>
  ∀ told10, told10 = (some ((.inl v4) : (Int ⊕ (Str × Int)))) →
  j2 told10) X3)) (fun s1 : (Option (Int ⊕ (Str × Int))) =>
  Q s1)
theorem ok__law_floorJ {k : Nat} {cs : EK → Addr} {f_BadNumber C_Ratio : Addr} (B : Bl mg) (DM_Ratio___rfloordiv__ : DefM P w K mg base (L2.CX P w) k C_Ratio "__rfloordiv__" ["self", "other"] (spA (preW (erW cs) (fun x : (Int × Int) × Int => [iz (zRatio C_Ratio) x.1, iz zI x.2]) zI (fun x => m_Ratio___rfloordiv__ x.1 x.2)))) (OC_Ratio_floordiv : OpC K C_Ratio "floordiv") (OF_Ratio_floordiv : OpF K C_Ratio "floordiv") (X_BadNumber : ErrTxt P K mg false "BadNumber" (cs .badNumber) f_BadNumber ["number"])
    (F : Src K mg "_law_floor" s__law_floor ["_law_one", "_law_two_here"]) : Def P w K mg base CX0 (k + 1) "_law_floor" ["_law_one", "_law_two_here"] (spA (preW (erW cs) (fun x : Int × (Int × Int) => [iz zI x.1, iz (zRatio C_Ratio) x.2]) (yO (yU zI (z2 yS zI))) (fun x => m__law_floorJ x.1 x.2))) := by
  refine F.okW sc__law_floor (fun _ => rfl) (fun f cdv A outer s H E x Q X hr h => ⟨_, (pss_cons (ps_asg pe_non (pg_name (i := 2) sc__law_floor.nd rfl (Or.inl rfl)))
 (C8.pss_cut (ps_try_as (i := 3) rfl rfl sc__law_floor.nd rfl rfl ⟨rfl, by decide, .inl X_BadNumber.gC⟩ takes0 (fun W pn xe tk _ => (pss_one (ps_asg (pe_bin2R (op := .FloorDiv) (R := fun _ => True) DM_Ratio___rfloordiv__ OC_Ratio_floordiv OF_Ratio_floordiv int_fdiv hr (fun σ => passAt tk σ) (pv 0) (pv 1)) (pg_name (i := 2) sc__law_floor.nd rfl (Or.inl rfl))))) (fun a oe cls d pn hz hf => (pss_one (ps_asg (pe_tup (pa_cons pe_str (pa_cons (pe_xf X_BadNumber.xf (X_BadNumber.noN _ (by decide)) hz hf (pv 3)) pa_nil))) (pg_name (i := 2) sc__law_floor.nd rfl (Or.inl rfl))))))
 (pss_one (ps_ret (pv 2))))), fun fr Qv hret => ?_⟩)
  obtain ⟨p_law_one, p_law_two_here⟩ := x
  replace h : m__law_floorJ p_law_one p_law_two_here Q X := h
  unfold m__law_floorJ at h
  refine kn_seq (kn_asg (i := 2) (We.conv (we_cNy (⟨_, (le_On (r := (yU zI (z2 yS zI)))), ?_⟩))))
  try dsimp only
  refine kn_cutW (S := (Option (Int ⊕ (Str × Int)))) (fun s1 => [some (iz zI p_law_one), some (iz (zRatio C_Ratio) p_law_two_here), some (iz (yO (yU zI (z2 yS zI))) s1), none]) (fun s1 => []) h (fun M hjn h => ?_) (fun s1 h => ?_)
  · replace h := tryD.go h
    try dsimp only
    refine kn_asgL (i := 2) (r := (yO (yU zI (z2 yS zI)))) (We.conv (we_sp2R (we_var rfl (we_var rfl (⟨_, rfl, insC_in, ?_⟩)))))
    refine sps_WT (p_law_two_here, p_law_one) h (fun z5 h => ?_) (fun v4 h => ?_)
    · cases z5 with
      | badNumber y6 =>
        try dsimp only at h
        refine kr_as X_BadNumber.te fun a7 d8 => ?_
        try dsimp only
        refine kn_asgL (i := 2) (r := (yO (yU zI (z2 yS zI)))) (We.conv (we_tup (wa_cons (we_cSy (z := "BadNumber") (asc_of (by decide)) (by decide) (wa_cons (we_xf (we_var rfl (⟨rfl, rfl, wa_nil (⟨Nat.le_of_ble_eq_true rfl, iz (z2 yS zI) (("BadNumber" : Str), y6), tr2, ⟨_, (show Vp.Le (iz (z2 yS zI) (("BadNumber" : Str), y6)) (iz (yO (yU zI (z2 yS zI))) (some ((.inr (("BadNumber" : Str), y6)) : (Int ⊕ (Str × Int))))) from fun F v h => ((show Vp.Le (iz (z2 yS zI) (("BadNumber" : Str), y6)) (iz (yU zI (z2 yS zI)) ((.inr (("BadNumber" : Str), y6)) : (Int ⊕ (Str × Int)))) from fun F v h => h) : Vp.Le (iz (z2 yS zI) _) (iz (yU zI (z2 yS zI)) _)) F v h), ⟨_, rfl, fun told9 etold9 => ?_⟩⟩⟩)⟩))))))))
        have h := h told9 etold9
        refine kn_suite ?_
        try dsimp only
        exact hjn told9 _ _ h (by and_intros) rfl
      | _ => exact (show False from h).elim
    refine ⟨rp_T, ⟨_, (show Vp.Le (iz zI v4) (iz (yO (yU zI (z2 yS zI))) (some ((.inl v4) : (Int ⊕ (Str × Int))))) from fun F v h => ((show Vp.Le (iz zI v4) (iz (yU zI (z2 yS zI)) ((.inl v4) : (Int ⊕ (Str × Int)))) from fun F v h => h) : Vp.Le (iz zI _) (iz (yU zI (z2 yS zI)) _)) F v h), ⟨_, rfl, fun told10 etold10 => ?_⟩⟩⟩
    have h := h told10 etold10
    exact hjn told10 _ _ h (by and_intros) rfl
  try dsimp only
  refine kn_ret (We.conv (we_var rfl (⟨_, Vp.Le.refl _, ?_⟩)))
  exact hret _ h _
abbrev s__law_parted : Stmt := topS 21
theorem sc__law_parted : FnScope ["_law_told", "_law_floor_here", "_law_top", "_law_bottom"] ["_law_told", "_law_floor_here", "_law_top", "_law_bottom"] (defScope s__law_parted) := ⟨rfl, rfl, rfl, by decide +kernel, rfl, by decide +kernel, by decide +kernel⟩
def m__law_parted (p_law_told : (Option ((Int × Int) ⊕ (Str × Int)))) (p_law_floor_here : (Option (Int ⊕ (Str × Int)))) (p_law_top : Int) (p_law_bottom : Int) : DM Bool := fun Q X =>
  ifD (decide (p_law_bottom = (0 : Int))) (
  ∃ told1 : (Str × Int), p_law_told = (some (.inr told1)) ∧
  ∃ floor2 : (Str × Int), p_law_floor_here = (some (.inr floor2)) ∧
  Q (true && ((decide (told1 = (("BadNumber" : Str), (0 : Int)))) && (true && (decide (floor2 = told1)))))) (
  joinD (fun j4 =>
  ifD (decide (p_law_bottom < (0 : Int))) (
  ∀ top5, top5 = (-p_law_top) →
  ∀ bottom6, bottom6 = (-p_law_bottom) →
  j4 (top5, bottom6)) (
  j4 (p_law_top, p_law_bottom))) (fun s3 : Int × Int =>
  ∃ told7 : (Int × Int), p_law_told = (some (.inl told7)) ∧
  ∃ floor8 : Int, p_law_floor_here = (some (.inl floor8)) ∧
  m__law_ratio told7 s3.1 s3.2 (fun v9 =>
  orD (!v9) (fun k11 => m__law_int floor8 (fun v12 =>
  k11 (!v12)) noX) (fun c10 =>
  ifD c10 (
  Q false) (
  CMulW floor8 s3.2 ∧
  andD (decide ((floor8 * s3.2) ≤ s3.1)) (fun k15 => CMulW (floor8 + (1 : Int)) s3.2 ∧
  k15 (decide (s3.1 < ((floor8 + (1 : Int)) * s3.2)))) (fun c14 =>
  Q c14)))) noX))
theorem ok__law_parted {k : Nat} {cs : EK → Addr} {C_Ratio : Addr} (B : Bl mg) (D__law_ratio : Def P w K mg base CX0 k "_law_ratio" ["_law_told", "_law_top", "_law_bottom"] (spA (preW (erW cs) (fun x : (Int × Int) × Int × Int => [iz (zRatio C_Ratio) x.1, iz zI x.2.1, iz zI x.2.2]) zB (fun x => m__law_ratio x.1 x.2.1 x.2.2)))) (D__law_int : Def P w K mg base CX0 k "_law_int" ["_law_told"] (spA (preW (erW cs) (fun x : Int => [iz zI x]) zB (fun x => m__law_int x))))
    (F : Src K mg "_law_parted" s__law_parted ["_law_told", "_law_floor_here", "_law_top", "_law_bottom"]) : Def P w K mg base CX0 (k + 1) "_law_parted" ["_law_told", "_law_floor_here", "_law_top", "_law_bottom"] (spA (preW (erW cs) (fun x : (Option ((Int × Int) ⊕ (Str × Int))) × (Option (Int ⊕ (Str × Int))) × Int × Int => [iz (yO (yU (zRatio C_Ratio) (z2 yS zI))) x.1, iz (yO (yU zI (z2 yS zI))) x.2.1, iz zI x.2.2.1, iz zI x.2.2.2]) zB (fun x => m__law_parted x.1 x.2.1 x.2.2.1 x.2.2.2))) := by
  refine F.okW sc__law_parted (fun _ => rfl) (fun f cdv A outer s H E x Q X hr h => ⟨_, (pss_cons (ps_if (pt_cmpR op_eq (pv 3) pe_int (nomark _)) (pss_one (ps_ret (pe_and (pe_callB (kcall_isi (K := K)) (by rfl) B.isinstance (by decide +kernel) (pa_cons (pv 0) (pa_cons (pe_bltn (v := .ty "tuple") (by rfl) B.tuple' (by decide +kernel) rfl) pa_nil))) (pe_and (pe_cmpR (kop_eqD (K := K) hr.units) (pv 0) (pe_tup (pa_cons pe_str (pa_cons pe_int pa_nil))) (nomark _)) (pe_and (pe_callB (kcall_isi (K := K)) (by rfl) B.isinstance (by decide +kernel) (pa_cons (pv 1) (pa_cons (pe_bltn (v := .ty "tuple") (by rfl) B.tuple' (by decide +kernel) rfl) pa_nil))) (pe_one (pe_cmpR (kop_eqD (K := K) hr.units) (pv 1) (pv 0) (nomark _)))))))) pss_nil)
 (C8.pss_cut (ps_if (pt_cmpR op_lt (pv 3) pe_int (nomark _)) (pss_cons (ps_asg (pe_un un_neg (pv 2)) (pg_name (i := 2) sc__law_parted.nd rfl (Or.inl rfl)))
 (pss_one (ps_asg (pe_un un_neg (pv 3)) (pg_name (i := 3) sc__law_parted.nd rfl (Or.inl rfl))))) pss_nil)
 (pss_cons (ps_if (PW.pt (pw_or (pt_not (pt_val (pe_def D__law_ratio hr pass0 (pa_cons (pv 0) (pa_cons (pv 2) (pa_cons (pv 3) pa_nil)))))) (pw_or1 (pt_not (pt_val (pe_def D__law_int hr pass0 (pa_cons (pv 1) pa_nil))))))) (pss_one (ps_ret pe_bl)) pss_nil)
 (pss_one (ps_ret (pe_and (pe_cmpR op_le (pe_op op_mulW (pv 1) (pv 3)) (pv 2) (nomark _)) (pe_one (pe_cmpR op_lt (pv 2) (pe_op op_mulW (pe_op op_add (pv 1) pe_int) (pv 3)) (nomark _))))))))), fun fr Qv hret => ?_⟩)
  obtain ⟨p_law_told, p_law_floor_here, p_law_top, p_law_bottom⟩ := x
  replace h : m__law_parted p_law_told p_law_floor_here p_law_top p_law_bottom Q X := h
  unfold m__law_parted at h
  refine kn_seq (kn_if (wt_test (we_op (we_var rfl (we_cI (ops_eqI (⟨_, rfl, ⟨fun hc => ?_, fun hc => ?_⟩⟩)))))))
  · have h := h.1 hc
    obtain ⟨told1, etold1, h⟩ := h
    revert h; (first | subst etold1 | rw [etold1]); intro h
    obtain ⟨floor2, efloor2, h⟩ := h
    revert h; (first | subst efloor2 | rw [efloor2]); intro h
    refine kn_ret (we_andP (we_cb (wa_cons (we_var rfl (wa_cons (we_cT (wa_nil (cb_isi ty_2 (show kitB "tuple" "tuple" = some true by decide +kernel) (⟨_, _, rfl, fun _ => we_andP (we_op (we_var rfl (we_tup (wa_cons (we_cSy (z := "BadNumber") (asc_of (by decide)) (by decide) (wa_cons (we_cI (wa_nil (⟨Nat.le_of_ble_eq_true rfl, iz (z2 yS zI) (("BadNumber" : Str), (0 : Int)), tr2, ops_eqD (r := (z2 yS zI)) (by decide) (⟨_, _, rfl, fun _ => we_andP (we_cb (wa_cons (we_var rfl (wa_cons (we_cT (wa_nil (cb_isi ty_2 (show kitB "tuple" "tuple" = some true by decide +kernel) (⟨_, _, rfl, fun _ => we_op (we_var rfl (we_var rfl (ops_eqD (r := (z2 yS zI)) (by decide) (⟨rfl, rfl⟩)))), ⟨rfl, rfl⟩⟩)))))))), ⟨rfl, rfl⟩⟩)⟩))))))))), ?_⟩)))))))))
    exact hret _ h _
  · have h := h.2 hc
    refine kn_next ?_
    try dsimp only
    refine kn_cutW (S := Int × Int) (fun s3 => [some (iz (yO (yU (zRatio C_Ratio) (z2 yS zI))) p_law_told), some (iz (yO (yU zI (z2 yS zI))) p_law_floor_here), some (iz zI s3.1), some (iz zI s3.2)]) (fun s3 => []) h (fun M hjn h => ?_) (fun s3 h => ?_)
    · refine kn_if (wt_test (we_op (we_var rfl (we_cI (ops_B0 (⟨_, rfl, ⟨fun hc => ?_, fun hc => ?_⟩⟩))))))
      · have h := h.1 hc
        refine kn_seq (kn_asgL (i := 2) (r := zI) (we_un (we_var rfl (uns_I (⟨_, rfl, fun top5 etop5 => ?_⟩)))))
        have h := h top5 etop5
        try dsimp only
        refine kn_asgL (i := 3) (r := zI) (we_un (we_var rfl (uns_I (⟨_, rfl, fun bottom6 ebottom6 => ?_⟩))))
        have h := h bottom6 ebottom6
        exact hjn (top5, bottom6) _ _ h (by and_intros) rfl
      · have h := h.2 hc
        refine kn_next ?_
        exact hjn (p_law_top, p_law_bottom) _ _ h (by and_intros) rfl
    try dsimp only
    obtain ⟨told7, etold7, h⟩ := h
    revert h; (first | subst etold7 | rw [etold7]); intro h
    obtain ⟨floor8, efloor8, h⟩ := h
    revert h; (first | subst efloor8 | rw [efloor8]); intro h
    refine kn_seq (kn_if (wt_orC (wt_not (wt_b (we_callE (wa_cons (we_var rfl (wa_cons (we_var rfl (wa_cons (we_var rfl (wa_nil ?_))))))))))))
    refine sps_W0 (told7, s3.1, s3.2) h (fun v9 h => ?_)
    refine ⟨_, rfl, ?_⟩
    refine orK h (fun h => ?_) (fun c10 h => ?_)
    · refine wt_not (wt_b (we_callE (wa_cons (we_var rfl (wa_nil ?_)))))
      refine sps_W0 floor8 h (fun v12 h => ?_)
      refine ⟨_, rfl, ?_⟩
      exact ⟨rfl, h⟩
    refine ⟨fun hc => ?_, fun hc => ?_⟩
    · have h := h.1 hc
      refine kn_ret (we_cB ?_)
      exact hret _ h _
    · have h := h.2 hc
      refine kn_next ?_
      try dsimp only
      refine kn_ret (we_andC (we_op (we_op (we_var rfl (we_var rfl ?_)))))
      obtain ⟨g13, h⟩ := h
      refine ops_IC g13 (we_var rfl (ops_B0 ?_))
      refine andKv h (fun h => ?_) (fun c14 h => ?_)
      · refine we_op (we_var rfl (we_op (we_op (we_var rfl (we_cI (ops_I0 (we_var rfl ?_)))))))
        obtain ⟨g16, h⟩ := h
        refine ops_IC g16 (ops_B0 ?_)
        exact ⟨rfl, _, rfl, h⟩
      exact hret _ h _
abbrev s__law_two : Stmt := topS 22
theorem sc__law_two : FnScope ["_law_one", "_law_two_here", "_law_a", "_law_b", "_law_told"] ["_law_one", "_law_two_here", "_law_a", "_law_b"] (defScope s__law_two) := ⟨rfl, rfl, rfl, by decide +kernel, rfl, by decide +kernel, by decide +kernel⟩
def m__law_two (p_law_one : (Int × Int)) (p_law_two_here : (Int × Int)) (p_law_a : (Int × Int)) (p_law_b : (Int × Int)) : DM Bool := fun Q X =>
  m__law_over p_law_one ((.inl p_law_two_here) : ((Int × Int) ⊕ Int)) (fun v1 =>
  m__law_floorR p_law_one p_law_two_here (fun v2 =>
  CMulW p_law_a.1 p_law_b.2 ∧
  CMulW p_law_a.2 p_law_b.1 ∧
  m__law_parted v1 v2 (p_law_a.1 * p_law_b.2) (p_law_a.2 * p_law_b.1) (fun v5 =>
  ifD (!v5) (
  Q false) (
  andD (!decide (p_law_b.1 = (0 : Int))) (fun k7 => ∃ z8 : (Int × Int), v1 = (some (.inl z8)) ∧
  m_Ratio___mul__ z8 (.inl p_law_two_here : ((Int × Int) ⊕ Int)) (fun v9 =>
  m_Ratio___eq__ v9 (.inl p_law_one : ((Int × Int) ⊕ Int)) (fun v10 =>
  orD (!v10) (fun k12 => ∃ z13 : (Int × Int), v1 = (some (.inl z13)) ∧
  m_Ratio___mul__ p_law_two_here (.inl z13 : ((Int × Int) ⊕ Int)) (fun v14 =>
  m_Ratio___eq__ v14 (.inl p_law_one : ((Int × Int) ⊕ Int)) (fun v15 =>
  k12 (!v15)) noX) noX) (fun c11 =>
  k7 c11)) noX) noX) (fun c6 =>
  ifD c6 (
  Q false) (
  m_Ratio___sub__ p_law_one (.inl p_law_two_here : ((Int × Int) ⊕ Int)) (fun v16 =>
  m_Ratio___lt__ v16 (.inr (0 : Int) : ((Int × Int) ⊕ Int)) (fun v17 =>
  m_Ratio___lt__ p_law_one (.inl p_law_two_here : ((Int × Int) ⊕ Int)) (fun v18 =>
  orD (!decide (v17 = v18)) (fun k20 => m_Ratio___lt__ p_law_one (.inl p_law_two_here : ((Int × Int) ⊕ Int)) (fun v21 =>
  m_Ratio___neg__ p_law_two_here (fun v22 =>
  m_Ratio___neg__ p_law_one (fun v23 =>
  m_Ratio___lt__ v22 (.inl v23 : ((Int × Int) ⊕ Int)) (fun v24 =>
  k20 (!decide (v21 = v24))) noX) noX) noX) noX) (fun c19 =>
  ifD c19 (
  Q false) (
  m_Ratio___sub__ p_law_one (.inl p_law_two_here : ((Int × Int) ⊕ Int)) (fun v25 =>
  m_Ratio___add__ v25 (.inl p_law_two_here : ((Int × Int) ⊕ Int)) (fun v26 =>
  m_Ratio___eq__ v26 (.inl p_law_one : ((Int × Int) ⊕ Int)) (fun v27 =>
  andD v27 (fun k29 => m_Ratio___add__ p_law_one (.inl p_law_two_here : ((Int × Int) ⊕ Int)) (fun v30 =>
  m_Ratio___mul__ v30 (.inl p_law_one : ((Int × Int) ⊕ Int)) (fun v31 =>
  m_Ratio___mul__ p_law_one (.inl p_law_one : ((Int × Int) ⊕ Int)) (fun v32 =>
  m_Ratio___mul__ p_law_two_here (.inl p_law_one : ((Int × Int) ⊕ Int)) (fun v33 =>
  m_Ratio___add__ v32 (.inl v33 : ((Int × Int) ⊕ Int)) (fun v34 =>
  m_Ratio___eq__ v31 (.inl v34 : ((Int × Int) ⊕ Int)) (fun v35 =>
  k29 v35) noX) noX) noX) noX) noX) noX) (fun c28 =>
  Q c28)) noX) noX) noX))) noX) noX) noX)))) noX) noX) noX
theorem ok__law_two {k : Nat} {cs : EK → Addr} {C_Ratio : Addr} (B : Bl mg) (T_Ratio : ClsA K mg C_Ratio "Ratio" ["top", "bottom"]) (D__law_over : Def P w K mg base CX0 (k + 1) "_law_over" ["_law_one", "_law_two_here"] (spA (preW (erW cs) (fun x : (Int × Int) × ((Int × Int) ⊕ Int) => [iz (zRatio C_Ratio) x.1, iz (yU (zRatio C_Ratio) zI) x.2]) (yO (yU (zRatio C_Ratio) (z2 yS zI))) (fun x => m__law_over x.1 x.2)))) (D__law_parted : Def P w K mg base CX0 (k + 1) "_law_parted" ["_law_told", "_law_floor_here", "_law_top", "_law_bottom"] (spA (preW (erW cs) (fun x : (Option ((Int × Int) ⊕ (Str × Int))) × (Option (Int ⊕ (Str × Int))) × Int × Int => [iz (yO (yU (zRatio C_Ratio) (z2 yS zI))) x.1, iz (yO (yU zI (z2 yS zI))) x.2.1, iz zI x.2.2.1, iz zI x.2.2.2]) zB (fun x => m__law_parted x.1 x.2.1 x.2.2.1 x.2.2.2)))) (D__law_floorR : Def P w K mg base CX0 (k + 1) "_law_floor" ["_law_one", "_law_two_here"] (spA (preW (erW cs) (fun x : (Int × Int) × (Int × Int) => [iz (zRatio C_Ratio) x.1, iz (zRatio C_Ratio) x.2]) (yO (yU zI (z2 yS zI))) (fun x => m__law_floorR x.1 x.2)))) (DM_Ratio___mul__ : DefM P w K mg base (L2.CX P w) (k + 1) C_Ratio "__mul__" ["self", "other"] (spA (preW (erW cs) (fun x : (Int × Int) × ((Int × Int) ⊕ Int) => [iz (zRatio C_Ratio) x.1, iz (yU (zRatio C_Ratio) zI) x.2]) (zRatio C_Ratio) (fun x => m_Ratio___mul__ x.1 x.2)))) (DM_Ratio___lt__ : DefM P w K mg base CX0 (k + 1) C_Ratio "__lt__" ["self", "other"] (spA (preW (erW cs) (fun x : (Int × Int) × ((Int × Int) ⊕ Int) => [iz (zRatio C_Ratio) x.1, iz (yU (zRatio C_Ratio) zI) x.2]) zB (fun x => m_Ratio___lt__ x.1 x.2)))) (DM_Ratio___sub__ : DefM P w K mg base (L2.CX P w) (k + 1) C_Ratio "__sub__" ["self", "other"] (spA (preW (erW cs) (fun x : (Int × Int) × ((Int × Int) ⊕ Int) => [iz (zRatio C_Ratio) x.1, iz (yU (zRatio C_Ratio) zI) x.2]) (zRatio C_Ratio) (fun x => m_Ratio___sub__ x.1 x.2)))) (DM_Ratio___neg__ : DefM P w K mg base (L2.CX P w) (k + 1) C_Ratio "__neg__" ["self"] (spA (preW (erW cs) (fun x : (Int × Int) => [iz (zRatio C_Ratio) x]) (zRatio C_Ratio) (fun x => m_Ratio___neg__ x)))) (DM_Ratio___eq__ : DefM P w K mg base CX0 (k + 1) C_Ratio "__eq__" ["self", "other"] (spA (preW (erW cs) (fun x : (Int × Int) × ((Int × Int) ⊕ Int) => [iz (zRatio C_Ratio) x.1, iz (yU (zRatio C_Ratio) zI) x.2]) zB (fun x => m_Ratio___eq__ x.1 x.2)))) (DM_Ratio___add__ : DefM P w K mg base (L2.CX P w) (k + 1) C_Ratio "__add__" ["self", "other"] (spA (preW (erW cs) (fun x : (Int × Int) × ((Int × Int) ⊕ Int) => [iz (zRatio C_Ratio) x.1, iz (yU (zRatio C_Ratio) zI) x.2]) (zRatio C_Ratio) (fun x => m_Ratio___add__ x.1 x.2)))) (OC_Ratio_mul : OpC K C_Ratio "mul") (OC_Ratio_sub : OpC K C_Ratio "sub") (OC_Ratio_add : OpC K C_Ratio "add") (NC_Ratio : NeC K C_Ratio) (DMk_Ratio___eq__ : DefM P w K mg base CX0 k C_Ratio "__eq__" ["self", "other"] (spA (preW (erW cs) (fun x : (Int × Int) × ((Int × Int) ⊕ Int) => [iz (zRatio C_Ratio) x.1, iz (yU (zRatio C_Ratio) zI) x.2]) zB (fun x => m_Ratio___eq__ x.1 x.2))))
    (F : Src K mg "_law_two" s__law_two ["_law_one", "_law_two_here", "_law_a", "_law_b"]) : Def P w K mg base CX0 (k + 2) "_law_two" ["_law_one", "_law_two_here", "_law_a", "_law_b"] (spA (preW (erW cs) (fun x : (Int × Int) × (Int × Int) × (Int × Int) × (Int × Int) => [iz (zRatio C_Ratio) x.1, iz (zRatio C_Ratio) x.2.1, iz (zLp zI zI) x.2.2.1, iz (zLp zI zI) x.2.2.2]) zB (fun x => m__law_two x.1 x.2.1 x.2.2.1 x.2.2.2))) := by
  refine F.okW sc__law_two (fun _ => rfl) (fun f cdv A outer s H E x Q X hr h => ⟨_, (pss_cons (ps_asg (pe_def D__law_over hr pass0 (pa_cons (pv 0) (pa_cons (pv 1) pa_nil))) (pg_name (i := 4) sc__law_two.nd rfl (Or.inl rfl)))
 (pss_cons (ps_if (pt_not (pt_val (pe_def D__law_parted hr pass0 (pa_cons (pv 4) (pa_cons (pe_def D__law_floorR hr pass0 (pa_cons (pv 0) (pa_cons (pv 1) pa_nil))) (pa_cons (pe_op op_mulW (pe_ix (kix_list (K := K)) (pv 2) pe_int (fun _ _ => rfl)) (pe_ix (kix_list (K := K)) (pv 3) pe_int (fun _ _ => rfl))) (pa_cons (pe_op op_mulW (pe_ix (kix_list (K := K)) (pv 2) pe_int (fun _ _ => rfl)) (pe_ix (kix_list (K := K)) (pv 3) pe_int (fun _ _ => rfl))) pa_nil))))))) (pss_one (ps_ret pe_bl)) pss_nil)
 (pss_cons (ps_if (PW.pt (pw_and (pt_cmpR op_ne (pe_ix (kix_list (K := K)) (pv 3) pe_int (fun _ _ => rfl)) pe_int (nomark _)) (pw_and1 (PW.pt (pw_or (pt_cmp (pc_ne2 DMk_Ratio___eq__ T_Ratio.cc NC_Ratio hr passAt0 (pe_bin2 (op := .Mult) (R := fun _ => True) DM_Ratio___mul__ OC_Ratio_mul hr (fun σ => Passes.at passL σ) (pv 4) (pv 1)) (pv 0))) (pw_or1 (pt_cmp (pc_ne2 DMk_Ratio___eq__ T_Ratio.cc NC_Ratio hr passAt0 (pe_bin2 (op := .Mult) (R := fun _ => True) DM_Ratio___mul__ OC_Ratio_mul hr (fun σ => Passes.at passL σ) (pv 1) (pv 4)) (pv 0))))))))) (pss_one (ps_ret pe_bl)) pss_nil)
 (pss_cons (ps_if (PW.pt (pw_or (pt_cmpR op_ne (pe_cmp (pc_cmp2 (op := .Lt) (R := fun _ => True) DM_Ratio___lt__ (fun _ _ => rfl) T_Ratio.cc hr passAt0 (pe_bin2 (op := .Sub) (R := fun _ => True) DM_Ratio___sub__ OC_Ratio_sub hr (fun σ => Passes.at passL σ) (pv 0) (pv 1)) pe_int) (nomark _)) (pe_cmp (pc_cmp2 (op := .Lt) (R := fun _ => True) DM_Ratio___lt__ (fun _ _ => rfl) T_Ratio.cc hr passAt0 (pv 0) (pv 1)) (nomark _)) (nomark _)) (pw_or1 (pt_cmpR op_ne (pe_cmp (pc_cmp2 (op := .Lt) (R := fun _ => True) DM_Ratio___lt__ (fun _ _ => rfl) T_Ratio.cc hr passAt0 (pv 0) (pv 1)) (nomark _)) (pe_cmp (pc_cmp2 (op := .Lt) (R := fun _ => True) DM_Ratio___lt__ (fun _ _ => rfl) T_Ratio.cc hr passAt0 (pe_neg2 DM_Ratio___neg__ hr (fun σ => Passes.at passL σ) (pv 1)) (pe_neg2 DM_Ratio___neg__ hr (fun σ => Passes.at passL σ) (pv 0))) (nomark _)) (nomark _))))) (pss_one (ps_ret pe_bl)) pss_nil)
 (pss_one (ps_ret (pe_and (pe_cmp (pc_cmp2 (op := .Eq) (R := fun _ => True) DM_Ratio___eq__ (fun _ _ => rfl) T_Ratio.cc hr passAt0 (pe_bin2 (op := .Add) (R := fun _ => True) DM_Ratio___add__ OC_Ratio_add hr (fun σ => Passes.at passL σ) (pe_bin2 (op := .Sub) (R := fun _ => True) DM_Ratio___sub__ OC_Ratio_sub hr (fun σ => Passes.at passL σ) (pv 0) (pv 1)) (pv 1)) (pv 0)) (nomark _)) (pe_one (pe_cmp (pc_cmp2 (op := .Eq) (R := fun _ => True) DM_Ratio___eq__ (fun _ _ => rfl) T_Ratio.cc hr passAt0 (pe_bin2 (op := .Mult) (R := fun _ => True) DM_Ratio___mul__ OC_Ratio_mul hr (fun σ => Passes.at passL σ) (pe_bin2 (op := .Add) (R := fun _ => True) DM_Ratio___add__ OC_Ratio_add hr (fun σ => Passes.at passL σ) (pv 0) (pv 1)) (pv 0)) (pe_bin2 (op := .Add) (R := fun _ => True) DM_Ratio___add__ OC_Ratio_add hr (fun σ => Passes.at passL σ) (pe_bin2 (op := .Mult) (R := fun _ => True) DM_Ratio___mul__ OC_Ratio_mul hr (fun σ => Passes.at passL σ) (pv 0) (pv 0)) (pe_bin2 (op := .Mult) (R := fun _ => True) DM_Ratio___mul__ OC_Ratio_mul hr (fun σ => Passes.at passL σ) (pv 1) (pv 0)))) (nomark _)))))))))), fun fr Qv hret => ?_⟩)
  obtain ⟨p_law_one, p_law_two_here, p_law_a, p_law_b⟩ := x
  replace h : m__law_two p_law_one p_law_two_here p_law_a p_law_b Q X := h
  unfold m__law_two at h
  refine kn_seq (kn_asg (i := 4) (we_callE (wa_cons (we_var rfl (wa_cons (We.conv (we_var rfl (⟨iz (yU (zRatio C_Ratio) zI) (.inl p_law_two_here), fun F v h => h, wa_nil ?_⟩))))))))
  refine sps_W0 (p_law_one, ((.inl p_law_two_here) : ((Int × Int) ⊕ Int))) h (fun v1 h => ?_)
  try dsimp only
  refine kn_seq (kn_if (wt_not (wt_b (we_callE (wa_cons (We.conv (we_var rfl (⟨_, Vp.Le.refl _, wa_cons (We.conv (we_callE (wa_cons (we_var rfl (wa_cons (we_var rfl (wa_nil ?_)))))))⟩))))))))
  refine sps_W0 (p_law_one, p_law_two_here) h (fun v2 h => ?_)
  refine ⟨_, Vp.Le.refl _, wa_cons (we_op (we_op (we_var rfl (we_cI (oy_ixLp0 (we_op (we_var rfl (we_cI (oy_ixLp1 ?_)))))))))⟩
  obtain ⟨g3, h⟩ := h
  refine ops_IC g3 (wa_cons (we_op (we_op (we_var rfl (we_cI (oy_ixLp1 (we_op (we_var rfl (we_cI (oy_ixLp0 ?_))))))))))
  obtain ⟨g4, h⟩ := h
  refine ops_IC g4 (wa_nil ?_)
  refine sps_W0 (v1, v2, (p_law_a.1 * p_law_b.2), (p_law_a.2 * p_law_b.1)) h (fun v5 h => ?_)
  refine ⟨_, rfl, ⟨fun hc => ?_, fun hc => ?_⟩⟩
  · have h := h.1 hc
    refine kn_ret (we_cB ?_)
    exact hret _ h _
  · have h := h.2 hc
    refine kn_next ?_
    try dsimp only
    refine kn_seq (kn_if (wt_andC (wt_test (we_op (we_op (we_var rfl (we_cI (oy_ixLp0 (we_cI (ops_neI (⟨_, rfl, ?_⟩)))))))))))
    refine andK h (fun h => ?_) (fun c6 h => ?_)
    · refine wt_orC (wt_test (we_ne2 (we_sp2 (We.conv (we_var rfl ?_)))))
      obtain ⟨z8, ez8, h⟩ := h
      refine ⟨_, (show Vp.Le (iz (yO (yU (zRatio C_Ratio) (z2 yS zI))) v1) (iz (zRatio C_Ratio) z8) from by rw [ez8]; exact fun F v h => h), we_var rfl (⟨insC_in, (rg_C insC_in), ?_⟩)⟩
      refine sps_W0 (z8, (.inl p_law_two_here : ((Int × Int) ⊕ Int))) h (fun v9 h => ?_)
      refine ⟨rp_T, we_var rfl (⟨insC_in, (rg_C insC_in), ?_⟩)⟩
      refine sps_W0 (v9, (.inl p_law_one : ((Int × Int) ⊕ Int))) h (fun v10 h => ?_)
      refine ⟨_, rfl, ⟨_, rfl, ?_⟩⟩
      refine orK h (fun h => ?_) (fun c11 h => ?_)
      · refine wt_test (we_ne2 (we_sp2 (we_var rfl (We.conv (we_var rfl ?_)))))
        obtain ⟨z13, ez13, h⟩ := h
        refine ⟨_, (show Vp.Le (iz (yO (yU (zRatio C_Ratio) (z2 yS zI))) v1) (iz (zRatio C_Ratio) z13) from by rw [ez13]; exact fun F v h => h), ⟨insC_in, (rg_C insC_in), ?_⟩⟩
        refine sps_W0 (p_law_two_here, (.inl z13 : ((Int × Int) ⊕ Int))) h (fun v14 h => ?_)
        refine ⟨rp_T, we_var rfl (⟨insC_in, (rg_C insC_in), ?_⟩)⟩
        refine sps_W0 (v14, (.inl p_law_one : ((Int × Int) ⊕ Int))) h (fun v15 h => ?_)
        refine ⟨_, rfl, ⟨_, rfl, ?_⟩⟩
        exact ⟨rfl, h⟩
      exact ⟨rfl, h⟩
    refine ⟨fun hc => ?_, fun hc => ?_⟩
    · have h := h.1 hc
      refine kn_ret (we_cB ?_)
      exact hret _ h _
    · have h := h.2 hc
      refine kn_next ?_
      try dsimp only
      refine kn_seq (kn_if (wt_orC (wt_test (we_op (we_sp2 (we_sp2 (we_var rfl (we_var rfl (⟨insC_in, (rg_C insC_in), ?_⟩)))))))))
      refine sps_W0 (p_law_one, (.inl p_law_two_here : ((Int × Int) ⊕ Int))) h (fun v16 h => ?_)
      refine ⟨rp_T, we_cI (⟨insC_in, rg_I, ?_⟩)⟩
      refine sps_W0 (v16, (.inr (0 : Int) : ((Int × Int) ⊕ Int))) h (fun v17 h => ?_)
      refine ⟨rp_T, we_sp2 (we_var rfl (we_var rfl (⟨insC_in, (rg_C insC_in), ?_⟩)))⟩
      refine sps_W0 (p_law_one, (.inl p_law_two_here : ((Int × Int) ⊕ Int))) h (fun v18 h => ?_)
      refine ⟨rp_T, ops_neB (⟨_, rfl, ?_⟩)⟩
      refine orK h (fun h => ?_) (fun c19 h => ?_)
      · refine wt_test (we_op (we_sp2 (we_var rfl (we_var rfl (⟨insC_in, (rg_C insC_in), ?_⟩)))))
        refine sps_W0 (p_law_one, (.inl p_law_two_here : ((Int × Int) ⊕ Int))) h (fun v21 h => ?_)
        refine ⟨rp_T, we_sp2 (we_sp1 (we_var rfl (⟨insC_in, ?_⟩)))⟩
        refine sps_W0 p_law_two_here h (fun v22 h => ?_)
        refine we_sp1 (we_var rfl (⟨insC_in, ?_⟩))
        refine sps_W0 p_law_one h (fun v23 h => ?_)
        refine ⟨insC_in, (rg_C insC_in), ?_⟩
        refine sps_W0 (v22, (.inl v23 : ((Int × Int) ⊕ Int))) h (fun v24 h => ?_)
        refine ⟨rp_T, ops_neB (⟨_, rfl, ?_⟩)⟩
        exact ⟨rfl, h⟩
      refine ⟨fun hc => ?_, fun hc => ?_⟩
      · have h := h.1 hc
        refine kn_ret (we_cB ?_)
        exact hret _ h _
      · have h := h.2 hc
        refine kn_next ?_
        try dsimp only
        refine kn_ret (we_andC (we_sp2 (we_sp2 (we_sp2 (we_var rfl (we_var rfl (⟨insC_in, (rg_C insC_in), ?_⟩)))))))
        refine sps_W0 (p_law_one, (.inl p_law_two_here : ((Int × Int) ⊕ Int))) h (fun v25 h => ?_)
        refine ⟨rp_T, we_var rfl (⟨insC_in, (rg_C insC_in), ?_⟩)⟩
        refine sps_W0 (v25, (.inl p_law_two_here : ((Int × Int) ⊕ Int))) h (fun v26 h => ?_)
        refine ⟨rp_T, we_var rfl (⟨insC_in, (rg_C insC_in), ?_⟩)⟩
        refine sps_W0 (v26, (.inl p_law_one : ((Int × Int) ⊕ Int))) h (fun v27 h => ?_)
        refine ⟨rp_T, ?_⟩
        refine andKv h (fun h => ?_) (fun c28 h => ?_)
        · refine we_sp2 (we_sp2 (we_sp2 (we_var rfl (we_var rfl (⟨insC_in, (rg_C insC_in), ?_⟩)))))
          refine sps_W0 (p_law_one, (.inl p_law_two_here : ((Int × Int) ⊕ Int))) h (fun v30 h => ?_)
          refine ⟨rp_T, we_var rfl (⟨insC_in, (rg_C insC_in), ?_⟩)⟩
          refine sps_W0 (v30, (.inl p_law_one : ((Int × Int) ⊕ Int))) h (fun v31 h => ?_)
          refine ⟨rp_T, we_sp2 (we_sp2 (we_var rfl (we_var rfl (⟨insC_in, (rg_C insC_in), ?_⟩))))⟩
          refine sps_W0 (p_law_one, (.inl p_law_one : ((Int × Int) ⊕ Int))) h (fun v32 h => ?_)
          refine ⟨rp_T, we_sp2 (we_var rfl (we_var rfl (⟨insC_in, (rg_C insC_in), ?_⟩)))⟩
          refine sps_W0 (p_law_two_here, (.inl p_law_one : ((Int × Int) ⊕ Int))) h (fun v33 h => ?_)
          refine ⟨rp_T, ⟨insC_in, (rg_C insC_in), ?_⟩⟩
          refine sps_W0 (v32, (.inl v33 : ((Int × Int) ⊕ Int))) h (fun v34 h => ?_)
          refine ⟨rp_T, ⟨insC_in, (rg_C insC_in), ?_⟩⟩
          refine sps_W0 (v31, (.inl v34 : ((Int × Int) ⊕ Int))) h (fun v35 h => ?_)
          refine ⟨rp_T, ?_⟩
          exact ⟨rfl, _, rfl, h⟩
        exact hret _ h _
abbrev s__law_whole : Stmt := topS 23
theorem sc__law_whole : FnScope ["_law_one", "_law_a", "_law_number_here", "_law_told"] ["_law_one", "_law_a", "_law_number_here"] (defScope s__law_whole) := ⟨rfl, rfl, rfl, by decide +kernel, rfl, by decide +kernel, by decide +kernel⟩
def m__law_whole (p_law_one : (Int × Int)) (p_law_a : (Int × Int)) (p_law_number_here : Int) : DM Bool := fun Q X =>
  m__law_over p_law_one ((.inr p_law_number_here) : ((Int × Int) ⊕ Int)) (fun v1 =>
  m__law_floorI p_law_one p_law_number_here (fun v2 =>
  CMulW p_law_a.2 p_law_number_here ∧
  m__law_parted v1 v2 p_law_a.1 (p_law_a.2 * p_law_number_here) (fun v4 =>
  ifD (!v4) (
  Q false) (
  m_Ratio___init__ p_law_number_here (1 : Int) (fun v5 =>
  m__law_over v5 ((.inl p_law_one) : ((Int × Int) ⊕ Int)) (fun v6 =>
  m__law_floorJ p_law_number_here p_law_one (fun v7 =>
  CMulW p_law_number_here p_law_a.2 ∧
  m__law_parted v6 v7 (p_law_number_here * p_law_a.2) p_law_a.1 (fun v9 =>
  Q v9) noX) noX) noX) noX)) noX) noX) noX
theorem ok__law_whole {k : Nat} {cs : EK → Addr} {C_Ratio : Addr} (B : Bl mg) (D__law_parted : Def P w K mg base CX0 (k + 1) "_law_parted" ["_law_told", "_law_floor_here", "_law_top", "_law_bottom"] (spA (preW (erW cs) (fun x : (Option ((Int × Int) ⊕ (Str × Int))) × (Option (Int ⊕ (Str × Int))) × Int × Int => [iz (yO (yU (zRatio C_Ratio) (z2 yS zI))) x.1, iz (yO (yU zI (z2 yS zI))) x.2.1, iz zI x.2.2.1, iz zI x.2.2.2]) zB (fun x => m__law_parted x.1 x.2.1 x.2.2.1 x.2.2.2)))) (D__law_over : Def P w K mg base CX0 (k + 1) "_law_over" ["_law_one", "_law_two_here"] (spA (preW (erW cs) (fun x : (Int × Int) × ((Int × Int) ⊕ Int) => [iz (zRatio C_Ratio) x.1, iz (yU (zRatio C_Ratio) zI) x.2]) (yO (yU (zRatio C_Ratio) (z2 yS zI))) (fun x => m__law_over x.1 x.2)))) (D__law_floorI : Def P w K mg base CX0 (k + 1) "_law_floor" ["_law_one", "_law_two_here"] (spA (preW (erW cs) (fun x : (Int × Int) × Int => [iz (zRatio C_Ratio) x.1, iz zI x.2]) (yO (yU zI (z2 yS zI))) (fun x => m__law_floorI x.1 x.2)))) (D__law_floorJ : Def P w K mg base CX0 (k + 1) "_law_floor" ["_law_one", "_law_two_here"] (spA (preW (erW cs) (fun x : Int × (Int × Int) => [iz zI x.1, iz (zRatio C_Ratio) x.2]) (yO (yU zI (z2 yS zI))) (fun x => m__law_floorJ x.1 x.2)))) (LI_Ratio : DflI K C_Ratio ["self", "top", "bottom"] [.int (1 : Int)]) (m_Ratio : mg "Ratio" = some (.ref C_Ratio)) (DI_Ratio : DefI P w K mg base (L2.CX P w) k C_Ratio ["self", "top", "bottom"] (spI C_Ratio (preW (erW cs) (fun x : Int × Int => [iz zI x.1, iz zI x.2]) (zRatio C_Ratio) (fun x => m_Ratio___init__ x.1 x.2))))
    (F : Src K mg "_law_whole" s__law_whole ["_law_one", "_law_a", "_law_number_here"]) : Def P w K mg base CX0 (k + 2) "_law_whole" ["_law_one", "_law_a", "_law_number_here"] (spA (preW (erW cs) (fun x : (Int × Int) × (Int × Int) × Int => [iz (zRatio C_Ratio) x.1, iz (zLp zI zI) x.2.1, iz zI x.2.2]) zB (fun x => m__law_whole x.1 x.2.1 x.2.2))) := by
  refine F.okW sc__law_whole (fun _ => rfl) (fun f cdv A outer s H E x Q X hr h => ⟨_, (pss_cons (ps_if (pt_not (pt_val (pe_def D__law_parted hr pass0 (pa_cons (pe_def D__law_over hr pass0 (pa_cons (pv 0) (pa_cons (pv 2) pa_nil))) (pa_cons (pe_def D__law_floorI hr pass0 (pa_cons (pv 0) (pa_cons (pv 2) pa_nil))) (pa_cons (pe_ix (kix_list (K := K)) (pv 1) pe_int (fun _ _ => rfl)) (pa_cons (pe_op op_mulW (pe_ix (kix_list (K := K)) (pv 1) pe_int (fun _ _ => rfl)) (pv 2)) pa_nil))))))) (pss_one (ps_ret pe_bl)) pss_nil)
 (pss_cons (ps_asg (pe_mkDD DI_Ratio LI_Ratio m_Ratio hr (fun σ => Passes.at passL σ) (pa_cons (pv 2) pa_nil)) (pg_name (i := 3) sc__law_whole.nd rfl (Or.inl rfl)))
 (pss_one (ps_ret (pe_def D__law_parted hr pass0 (pa_cons (pe_def D__law_over hr pass0 (pa_cons (pv 3) (pa_cons (pv 0) pa_nil))) (pa_cons (pe_def D__law_floorJ hr pass0 (pa_cons (pv 2) (pa_cons (pv 0) pa_nil))) (pa_cons (pe_op op_mulW (pv 2) (pe_ix (kix_list (K := K)) (pv 1) pe_int (fun _ _ => rfl))) (pa_cons (pe_ix (kix_list (K := K)) (pv 1) pe_int (fun _ _ => rfl)) pa_nil))))))))), fun fr Qv hret => ?_⟩)
  obtain ⟨p_law_one, p_law_a, p_law_number_here⟩ := x
  replace h : m__law_whole p_law_one p_law_a p_law_number_here Q X := h
  unfold m__law_whole at h
  refine kn_seq (kn_if (wt_not (wt_b (we_callE (wa_cons (We.conv (we_callE (wa_cons (we_var rfl (wa_cons (We.conv (we_var rfl (⟨iz (yU (zRatio C_Ratio) zI) (.inr p_law_number_here), fun F v h => h, wa_nil ?_⟩)))))))))))))
  refine sps_W0 (p_law_one, ((.inr p_law_number_here) : ((Int × Int) ⊕ Int))) h (fun v1 h => ?_)
  refine ⟨_, Vp.Le.refl _, wa_cons (We.conv (we_callE (wa_cons (we_var rfl (wa_cons (we_var rfl (wa_nil ?_)))))))⟩
  refine sps_W0 (p_law_one, p_law_number_here) h (fun v2 h => ?_)
  refine ⟨_, Vp.Le.refl _, wa_cons (we_op (we_var rfl (we_cI (oy_ixLp0 (wa_cons (we_op (we_op (we_var rfl (we_cI (oy_ixLp1 (we_var rfl ?_)))))))))))⟩
  obtain ⟨g3, h⟩ := h
  refine ops_IC g3 (wa_nil ?_)
  refine sps_W0 (v1, v2, p_law_a.1, (p_law_a.2 * p_law_number_here)) h (fun v4 h => ?_)
  refine ⟨_, rfl, ⟨fun hc => ?_, fun hc => ?_⟩⟩
  · have h := h.1 hc
    refine kn_ret (we_cB ?_)
    exact hret _ h _
  · have h := h.2 hc
    refine kn_next ?_
    try dsimp only
    refine kn_seq (kn_asg (i := 3) (we_mkDf (dps := [iz zI (1 : Int)]) (.cons (fun _ => rfl) (.nil)) (wa_cons (we_var rfl (wa_nil ?_)))))
    refine mkW0 (p_law_number_here, (1 : Int)) h (fun v5 h => ?_)
    try dsimp only
    refine kn_ret (we_callE (wa_cons (We.conv (we_callE (wa_cons (we_var rfl (wa_cons (We.conv (we_var rfl (⟨iz (yU (zRatio C_Ratio) zI) (.inl p_law_one), fun F v h => h, wa_nil ?_⟩))))))))))
    refine sps_W0 (v5, ((.inl p_law_one) : ((Int × Int) ⊕ Int))) h (fun v6 h => ?_)
    refine ⟨_, Vp.Le.refl _, wa_cons (We.conv (we_callE (wa_cons (we_var rfl (wa_cons (we_var rfl (wa_nil ?_)))))))⟩
    refine sps_W0 (p_law_number_here, p_law_one) h (fun v7 h => ?_)
    refine ⟨_, Vp.Le.refl _, wa_cons (we_op (we_var rfl (we_op (we_var rfl (we_cI (oy_ixLp1 ?_))))))⟩
    obtain ⟨g8, h⟩ := h
    refine ops_IC g8 (wa_cons (we_op (we_var rfl (we_cI (oy_ixLp0 (wa_nil ?_))))))
    refine sps_W0 (v6, v7, (p_law_number_here * p_law_a.2), p_law_a.1) h (fun v9 h => ?_)
    exact hret _ h _
abbrev s_law : Stmt := topS 24
theorem sc_law : FnScope ["_law_script", "_law_bag_here", "_law_pairs", "_law_number_here", "_law_row", "_law_forward", "_law_backward", "_law_times", "_law_k", "_law_other", "_law_a"] ["_law_script"] (defScope s_law) := ⟨rfl, rfl, rfl, by decide +kernel, rfl, by decide +kernel, by decide +kernel⟩
def m_law  : DM Bool := fun Q X =>
  m_draw (6 : Int) (fun v4 =>
  (-100000 ≤ ((2 : Int) + v4) ∧ ((2 : Int) + v4) ≤ 100000) ∧
  mapD (intsF 0 (((2 : Int) + v4)).toNat) [] (fun x1 k2 =>
  m__law_pair  (fun v7 =>
  k2 v7) noX) (fun ys3 =>
  m__law_number  (fun v8 =>
  mapD ys3 [] (fun x9 k10 =>
  m_Ratio___init__ x9.1 x9.2 (fun v14 =>
  k10 v14) noX) (fun ys11 =>
  m_Ratio___init__ (0 : Int) (1 : Int) (fun v15 =>
  m_Ratio___init__ (0 : Int) (1 : Int) (fun v16 =>
  m_Ratio___init__ (0 : Int) (1 : Int) (fun v17 =>
  forD (intsF 0 (((ys11).length : Int)).toNat) (v15, v16, v17) (fun x19 s18 nx bk =>
  ∃ v21, atI ys11 x19 = some v21 ∧
  m_Ratio___add__ s18.1 (.inl v21 : ((Int × Int) ⊕ Int)) (fun v22 =>
  ∃ v24, atI ys11 ((((ys11).length : Int) - (1 : Int)) - x19) = some v24 ∧
  m_Ratio___add__ v24 (.inl s18.2.1 : ((Int × Int) ⊕ Int)) (fun v25 =>
  ∃ v26, atI ys11 x19 = some v26 ∧
  m_Ratio___mul__ v26 (.inr v8 : ((Int × Int) ⊕ Int)) (fun v27 =>
  m_Ratio___add__ s18.2.2 (.inl v27 : ((Int × Int) ⊕ Int)) (fun v28 =>
  nx (v22, v25, v28)) noX) noX) noX) noX) (fun s18 =>
  m_Ratio___eq__ s18.1 (.inl s18.2.1 : ((Int × Int) ⊕ Int)) (fun v29 =>
  ifD ((!v29) || ((!decide (s18.1.1 = s18.2.1.1)) || (!decide (s18.1.2 = s18.2.1.2)))) (
  Q false) (
  m_Ratio___mul__ s18.1 (.inr v8 : ((Int × Int) ⊕ Int)) (fun v30 =>
  m_Ratio___eq__ s18.2.2 (.inl v30 : ((Int × Int) ⊕ Int)) (fun v31 =>
  ifD (!v31) (
  Q false) (
  forD (intsF 0 (((ys11).length : Int)).toNat) () (fun x33 s32 nx bk =>
  ∀ other35, other35 = (x33 - (1 : Int)) →
  ∃ v36, atI ys11 x33 = some v36 ∧
  ∃ v37, atI ys11 other35 = some v37 ∧
  ∃ v38, atI ys3 x33 = some v38 ∧
  ∃ v39, atI ys3 other35 = some v39 ∧
  m__law_two v36 v37 v38 v39 (fun v40 =>
  ifD (!v40) (
  Q false) (
  ∃ v41, atI ys11 x33 = some v41 ∧
  ∃ v42, atI ys3 x33 = some v42 ∧
  m__law_whole v41 v42 v8 (fun v43 =>
  ifD (!v43) (
  Q false) (
  nx ())) noX)) noX) (fun s32 =>
  Q true))) noX) noX)) noX)) noX) noX) noX)) noX)) noX
theorem ok_law {k : Nat} {cs : EK → Addr} {C_Ratio : Addr} (B : Bl mg) (T_Ratio : ClsA K mg C_Ratio "Ratio" ["top", "bottom"]) (D__law_draw : Def P w K mg base CX0 (k + 1) "_law_draw" ["_law_bag_here", "_law_many"] (spC (preK (cBag 4) (preBW (fun x : Int => [iz zI x]) zI m_draw)))) (D__law_pair : Def P w K mg base CX0 (k + 1) "_law_pair" ["_law_bag_here"] (spC (preK (cBag 4) (preBW (fun x : Unit => []) (zLp zI zI) (fun x => m__law_pair))))) (D__law_number : Def P w K mg base CX0 (k + 1) "_law_number" ["_law_bag_here"] (spC (preK (cBag 4) (preBW (fun x : Unit => []) zI (fun x => m__law_number))))) (D__law_two : Def P w K mg base CX0 (k + 1) "_law_two" ["_law_one", "_law_two_here", "_law_a", "_law_b"] (spA (preW (erW cs) (fun x : (Int × Int) × (Int × Int) × (Int × Int) × (Int × Int) => [iz (zRatio C_Ratio) x.1, iz (zRatio C_Ratio) x.2.1, iz (zLp zI zI) x.2.2.1, iz (zLp zI zI) x.2.2.2]) zB (fun x => m__law_two x.1 x.2.1 x.2.2.1 x.2.2.2)))) (D__law_whole : Def P w K mg base CX0 (k + 1) "_law_whole" ["_law_one", "_law_a", "_law_number_here"] (spA (preW (erW cs) (fun x : (Int × Int) × (Int × Int) × Int => [iz (zRatio C_Ratio) x.1, iz (zLp zI zI) x.2.1, iz zI x.2.2]) zB (fun x => m__law_whole x.1 x.2.1 x.2.2)))) (DM_Ratio___add__ : DefM P w K mg base (L2.CX P w) (k + 1) C_Ratio "__add__" ["self", "other"] (spA (preW (erW cs) (fun x : (Int × Int) × ((Int × Int) ⊕ Int) => [iz (zRatio C_Ratio) x.1, iz (yU (zRatio C_Ratio) zI) x.2]) (zRatio C_Ratio) (fun x => m_Ratio___add__ x.1 x.2)))) (DM_Ratio___mul__ : DefM P w K mg base (L2.CX P w) (k + 1) C_Ratio "__mul__" ["self", "other"] (spA (preW (erW cs) (fun x : (Int × Int) × ((Int × Int) ⊕ Int) => [iz (zRatio C_Ratio) x.1, iz (yU (zRatio C_Ratio) zI) x.2]) (zRatio C_Ratio) (fun x => m_Ratio___mul__ x.1 x.2)))) (LI_Ratio : DflI K C_Ratio ["self", "top", "bottom"] [.int (1 : Int)]) (OC_Ratio_add : OpC K C_Ratio "add") (OC_Ratio_mul : OpC K C_Ratio "mul") (NC_Ratio : NeC K C_Ratio) (m_Ratio : mg "Ratio" = some (.ref C_Ratio)) (DI_Ratio : DefI P w K mg base (L2.CX P w) k C_Ratio ["self", "top", "bottom"] (spI C_Ratio (preW (erW cs) (fun x : Int × Int => [iz zI x.1, iz zI x.2]) (zRatio C_Ratio) (fun x => m_Ratio___init__ x.1 x.2)))) (DMk_Ratio___eq__ : DefM P w K mg base CX0 k C_Ratio "__eq__" ["self", "other"] (spA (preW (erW cs) (fun x : (Int × Int) × ((Int × Int) ⊕ Int) => [iz (zRatio C_Ratio) x.1, iz (yU (zRatio C_Ratio) zI) x.2]) zB (fun x => m_Ratio___eq__ x.1 x.2)))) (D__law_bag : Def P w K mg base CX0 (k + 1) "_law_bag" ["_law_script"] (spN (preBag K 4)))
    {f : Addr} {fd : FuncData} (F : Fun K "law" "law" s_law f fd) (hm : m_law (· = true) noX) : FnOk P w K mg base CX0 (k + 2) f fd ["_law_script"] (spLaw K) := by
  refine F.ok sc_law (fun vs H Q E h => ?_) (fun cdv A outer s H vs Q E hr h => ?_)
  · obtain ⟨a, ns, rfl, _⟩ := h
    rfl
  obtain ⟨a, ns, rfl, hS, hlen, q⟩ := h
  refine ⟨_, (pss_cons (ps_asg (pe_def D__law_bag hr pass0 (pa_cons (pv 0) pa_nil)) (pg_name (i := 1) sc_law.nd rfl (Or.inr rfl)))
 (pss_cons (ps_setLc (i := 2) (own := [("_law_k", 8)]) (g := gName 8) (by rfl) sc_law.nd rfl rfl (sw_true rfl rfl rfl (by decide +kernel)) (pi_range1 (by rfl) B.range (pa_cons (pe_op op_add pe_int (pe_def D__law_draw hr pass0 (pa_cons (pv 1) (pa_cons pe_int pa_nil)))) pa_nil)) (blkOk_by (N := ["_law_script", "_law_bag_here", "_law_pairs", "_law_number_here", "_law_row", "_law_forward", "_law_backward", "_law_times", "_law_k", "_law_other", "_law_a"]) (sc := defScope s_law) (by decide +kernel)) (fun _ _ _ _ _ => (pg_name (i := 8) sc_law.nd rfl (Or.inl rfl))) (fun _ _ _ _ _ => pts_nil) (fun _ _ _ _ _ => (pe_def D__law_pair hr pass0 (pa_cons (pv 1) pa_nil))))
 (pss_cons (ps_asg (pe_def D__law_number hr pass0 (pa_cons (pv 1) pa_nil)) (pg_name (i := 3) sc_law.nd rfl (Or.inl rfl)))
 (pss_cons (ps_setLc (i := 4) (own := [("_law_a", 10)]) (g := gName 10) (by rfl) sc_law.nd rfl rfl (sw_true rfl rfl rfl (by decide +kernel)) (kpi_list (K := K) (pv 2)) (blkOk_by (N := ["_law_script", "_law_bag_here", "_law_pairs", "_law_number_here", "_law_row", "_law_forward", "_law_backward", "_law_times", "_law_k", "_law_other", "_law_a"]) (sc := defScope s_law) (by decide +kernel)) (fun _ _ _ _ _ => (pg_name (i := 10) sc_law.nd rfl (Or.inl rfl))) (fun _ _ _ _ _ => pts_nil) (fun _ _ _ _ _ => (pe_mkD DI_Ratio m_Ratio hr (fun σ => Passes.at passL σ) (pa_cons (pe_ix (kix_list (K := K)) (pv 10) pe_int (fun _ _ => rfl)) (pa_cons (pe_ix (kix_list (K := K)) (pv 10) pe_int (fun _ _ => rfl)) pa_nil)))))
 (pss_cons (ps_asg (pe_mkDD DI_Ratio LI_Ratio m_Ratio hr (fun σ => Passes.at passL σ) (pa_cons pe_int pa_nil)) (pg_name (i := 5) sc_law.nd rfl (Or.inl rfl)))
 (pss_cons (ps_asg (pe_mkDD DI_Ratio LI_Ratio m_Ratio hr (fun σ => Passes.at passL σ) (pa_cons pe_int pa_nil)) (pg_name (i := 6) sc_law.nd rfl (Or.inl rfl)))
 (pss_cons (ps_asg (pe_mkDD DI_Ratio LI_Ratio m_Ratio hr (fun σ => Passes.at passL σ) (pa_cons pe_int pa_nil)) (pg_name (i := 7) sc_law.nd rfl (Or.inl rfl)))
 (pss_cons (ps_for PassesOwn.never rfl (pi_range1 (by rfl) B.range (pa_cons (pe_callB (kcall_len (K := K)) (by rfl) B.len PySem.boot_len (pa_cons (pv 4) pa_nil)) pa_nil)) (pg_name (i := 8) sc_law.nd rfl (Or.inl rfl)) (pss_cons (ps_asg (pe_bin2 (op := .Add) (R := fun _ => True) DM_Ratio___add__ OC_Ratio_add hr (fun σ => Passes.at passL σ) (pv 5) (pe_ix (kix_list (K := K)) (pv 4) (pv 8) (fun _ _ => rfl))) (pg_name (i := 5) sc_law.nd rfl (Or.inl rfl)))
 (pss_cons (ps_asg (pe_bin2 (op := .Add) (R := fun _ => True) DM_Ratio___add__ OC_Ratio_add hr (fun σ => Passes.at passL σ) (pe_ix (kix_list (K := K)) (pv 4) (pe_op op_sub (pe_op op_sub (pe_callB (kcall_len (K := K)) (by rfl) B.len PySem.boot_len (pa_cons (pv 4) pa_nil)) pe_int) (pv 8)) (fun _ _ => rfl)) (pv 6)) (pg_name (i := 6) sc_law.nd rfl (Or.inl rfl)))
 (pss_one (ps_asg (pe_bin2 (op := .Add) (R := fun _ => True) DM_Ratio___add__ OC_Ratio_add hr (fun σ => Passes.at passL σ) (pv 7) (pe_bin2 (op := .Mult) (R := fun _ => True) DM_Ratio___mul__ OC_Ratio_mul hr (fun σ => Passes.at passL σ) (pe_ix (kix_list (K := K)) (pv 4) (pv 8) (fun _ _ => rfl)) (pv 3))) (pg_name (i := 7) sc_law.nd rfl (Or.inl rfl)))))))
 (pss_cons (ps_if (PW.pt (pw_or (pt_cmp (pc_ne2 DMk_Ratio___eq__ T_Ratio.cc NC_Ratio hr passAt0 (pv 5) (pv 6))) (pw_or (pt_cmpR op_ne (kpe_fld (K := K) (pv 5)) (kpe_fld (K := K) (pv 6)) (nomark _)) (pw_or1 (pt_cmpR op_ne (kpe_fld (K := K) (pv 5)) (kpe_fld (K := K) (pv 6)) (nomark _)))))) (pss_one (ps_ret pe_bl)) pss_nil)
 (pss_cons (ps_if (pt_cmp (pc_ne2 DMk_Ratio___eq__ T_Ratio.cc NC_Ratio hr passAt0 (pv 7) (pe_bin2 (op := .Mult) (R := fun _ => True) DM_Ratio___mul__ OC_Ratio_mul hr (fun σ => Passes.at passL σ) (pv 5) (pv 3)))) (pss_one (ps_ret pe_bl)) pss_nil)
 (pss_cons (ps_for PassesOwn.never rfl (pi_range1 (by rfl) B.range (pa_cons (pe_callB (kcall_len (K := K)) (by rfl) B.len PySem.boot_len (pa_cons (pv 4) pa_nil)) pa_nil)) (pg_name (i := 8) sc_law.nd rfl (Or.inl rfl)) (pss_cons (ps_asg (pe_op op_sub (pv 8) pe_int) (pg_name (i := 9) sc_law.nd rfl (Or.inl rfl)))
 (pss_cons (ps_if (pt_not (pt_val (pe_def D__law_two hr pass0 (pa_cons (pe_ix (kix_list (K := K)) (pv 4) (pv 8) (fun _ _ => rfl)) (pa_cons (pe_ix (kix_list (K := K)) (pv 4) (pv 9) (fun _ _ => rfl)) (pa_cons (pe_ix (kix_list (K := K)) (pv 2) (pv 8) (fun _ _ => rfl)) (pa_cons (pe_ix (kix_list (K := K)) (pv 2) (pv 9) (fun _ _ => rfl)) pa_nil))))))) (pss_one (ps_ret pe_bl)) pss_nil)
 (pss_one (ps_if (pt_not (pt_val (pe_def D__law_whole hr pass0 (pa_cons (pe_ix (kix_list (K := K)) (pv 4) (pv 8) (fun _ _ => rfl)) (pa_cons (pe_ix (kix_list (K := K)) (pv 2) (pv 8) (fun _ _ => rfl)) (pa_cons (pv 3) pa_nil)))))) (pss_one (ps_ret pe_bl)) pss_nil)))))
 (pss_one (ps_ret pe_bl))))))))))))), ?_⟩
  have hret : ∀ {fr : L2.Fr} {Θ : List Cel} (c : Bool), c = true → Rt fr Θ Q (iz zB c) := fun {fr Θ} c hc v F' H' ok hv => by
    subst hc
    have hv : v = .bl true := hv
    subst hv
    exact q H'
  refine (?_ : ∀ fr, Kn fr (L2.envOf _ [iz (zScr K) ns]) [] _) ⟨H, H, []⟩ _ H H (OkF.start (Same.refl H)) (env_start (.cons ⟨a, rfl, hS, hlen⟩ .nil))
  intro fr
  refine kn_seq (kn_asg (we_callE (wa_cons (we_var rfl (wa_nil ?_)))))
  refine sps_N ⟨ns, rfl, rfl, rfl⟩ (fun p Θn ⟨b, l, e1, e2⟩ => ?_) (fun e he => he.elim)
  subst e1 e2
  try dsimp only
  have h := hm
  unfold m_law at h
  refine kn_seq (kn_asg (i := 2) (we_lcM (r := zI) (s := (zLp zI zI)) (wi_range (wa_cons (we_op (we_cI (we_callE (wa_cons (we_var rfl (wa_cons (we_cI (wa_nil ?_))))))))))))
  refine sps_KW (mk := cBag 4) (j := 0) rfl (6 : Int) h (fun v4 h => ?_)
  refine ops_I0 (wa_nil ?_)
  obtain ⟨g5, h⟩ := h
  refine ⟨_, rfl, (by have hb : big = 100000 := rfl; omega), (by have hb : big = 100000 := rfl; omega), ⟨_, _, _, _, rfl, rfl, (intsF_big (by have hb : big = 100000 := rfl; omega)), fun _ => tg_name, h, fun x1 c k2 h => ?_, fun ys3 h eys3 => ?_⟩⟩
  · refine we_callE (wa_cons (we_var rfl (wa_nil ?_)))
    refine sps_KW (mk := cBag 4) (j := 1) rfl () h (fun v7 h => ?_)
    exact ⟨rfl, _, rfl, h⟩
  try dsimp only
  refine kn_seq (kn_asg (i := 3) (we_callE (wa_cons (we_var rfl (wa_nil ?_)))))
  refine sps_KW (mk := cBag 4) (j := 0) rfl () h (fun v8 h => ?_)
  try dsimp only
  refine kn_seq (kn_asg (i := 4) (we_lcM (r := (zLp zI zI)) (s := (zRatio C_Ratio)) (wi_yL (we_var rfl (⟨_, _, _, rfl, fun e12 => ⟨_, _, _, _, rfl, rfl, e12, fun _ => tg_name, h, fun x9 c k10 h => ?_, fun ys11 h eys11 => ?_⟩⟩)))))
  · refine we_mkP (wa_cons (we_op (we_var rfl (we_cI (oy_ixLp0 (wa_cons (we_op (we_var rfl (we_cI (oy_ixLp1 (wa_nil ?_)))))))))))
    refine mkW0 (x9.1, x9.2) h (fun v14 h => ?_)
    exact ⟨rfl, _, rfl, h⟩
  try dsimp only
  refine kn_seq (kn_asg (i := 5) (we_mkDf (dps := [iz zI (1 : Int)]) (.cons (fun _ => rfl) (.nil)) (wa_cons (we_cI (wa_nil ?_)))))
  refine mkW0 ((0 : Int), (1 : Int)) h (fun v15 h => ?_)
  try dsimp only
  refine kn_seq (kn_asg (i := 6) (we_mkDf (dps := [iz zI (1 : Int)]) (.cons (fun _ => rfl) (.nil)) (wa_cons (we_cI (wa_nil ?_)))))
  refine mkW0 ((0 : Int), (1 : Int)) h (fun v16 h => ?_)
  try dsimp only
  refine kn_seq (kn_asg (i := 7) (we_mkDf (dps := [iz zI (1 : Int)]) (.cons (fun _ => rfl) (.nil)) (wa_cons (we_cI (wa_nil ?_)))))
  refine mkW0 ((0 : Int), (1 : Int)) h (fun v17 h => ?_)
  try dsimp only
  refine kn_seq (kn_forW (r := zI) (S := (Int × Int) × (Int × Int) × (Int × Int)) (fun s18 => [none, some (zAt b), some (iz (yL (zLp zI zI)) ys3), some (iz zI v8), some (iz (yL (zRatio C_Ratio)) ys11), some (iz (zRatio C_Ratio) s18.1), some (iz (zRatio C_Ratio) s18.2.1), some (iz (zRatio C_Ratio) s18.2.2), none, none, none]) (fun s18 => [cBag 4 b l]) (v15, v16, v17) (wi_range (wa_cons (we_cb (wa_cons (we_var rfl (wa_nil (cy_len sy_L (fun e20 => (wa_nil (⟨_, rfl, (by have hb : big = 100000 := rfl; omega), (by have hb : big = 100000 := rfl; omega), ⟨_, _, _, _, _, rfl, rfl, (by and_intros), fun _ _ => tg_name, h, fun fr' le x19 s18 nx M hnx hbk h => ?_, fun s18 h => ?_⟩⟩)))))))))))
  · refine kn_seq (kn_asg (i := 5) (we_sp2 (we_var rfl (we_op (we_var rfl (we_var rfl ?_))))))
    obtain ⟨v21, ev21, h⟩ := h
    refine oy_ixL ev21 (⟨insC_in, (rg_C insC_in), ?_⟩)
    refine sps_W0 (s18.1, (.inl v21 : ((Int × Int) ⊕ Int))) h (fun v22 h => ?_)
    refine ⟨rp_T, ?_⟩
    try dsimp only
    refine kn_seq (kn_asg (i := 6) (we_sp2 (we_op (we_var rfl (we_op (we_op (we_cb (wa_cons (we_var rfl (wa_nil (cy_len sy_L (fun e23 => (we_cI (ops_I0 (we_var rfl (ops_I0 ?_))))))))))))))))
    obtain ⟨v24, ev24, h⟩ := h
    refine oy_ixL ev24 (we_var rfl (⟨insC_in, (rg_C insC_in), ?_⟩))
    refine sps_W0 (v24, (.inl s18.2.1 : ((Int × Int) ⊕ Int))) h (fun v25 h => ?_)
    refine ⟨rp_T, ?_⟩
    try dsimp only
    refine kn_asg (i := 7) (we_sp2 (we_var rfl (we_sp2 (we_op (we_var rfl (we_var rfl ?_))))))
    obtain ⟨v26, ev26, h⟩ := h
    refine oy_ixL ev26 (we_var rfl (⟨insC_in, rg_I, ?_⟩))
    refine sps_W0 (v26, (.inr v8 : ((Int × Int) ⊕ Int))) h (fun v27 h => ?_)
    refine ⟨rp_T, ⟨insC_in, (rg_C insC_in), ?_⟩⟩
    refine sps_W0 (s18.2.2, (.inl v27 : ((Int × Int) ⊕ Int))) h (fun v28 h => ?_)
    refine ⟨rp_T, ?_⟩
    exact hnx (v22, v25, v28) _ _ h (by and_intros) rfl
  try dsimp only
  refine kn_seq (kn_if (wt_orP (wt_test (we_ne2 (we_var rfl (we_var rfl (⟨insC_in, (rg_C insC_in), ?_⟩)))))))
  refine sps_W0 (s18.1, (.inl s18.2.1 : ((Int × Int) ⊕ Int))) h (fun v29 h => ?_)
  refine ⟨_, rfl, ⟨_, rfl, ⟨_, fun _ => wt_orP (wt_test (we_op (we_fld (we_var rfl (⟨_, fld_in T_Ratio.toClsF (by decide) rfl, we_fld (we_var rfl (⟨_, fld_in T_Ratio.toClsF (by decide) rfl, ops_neI (⟨_, rfl, ⟨_, fun _ => wt_test (we_op (we_fld (we_var rfl (⟨_, fld_in T_Ratio.toClsF (by decide) rfl, we_fld (we_var rfl (⟨_, fld_in T_Ratio.toClsF (by decide) rfl, ops_neI (⟨_, rfl, ⟨rfl, rfl⟩⟩)⟩))⟩)))), ⟨rfl, rfl⟩⟩⟩)⟩))⟩))))), ⟨fun hc => ?_, fun hc => ?_⟩⟩⟩⟩
  · have h := h.1 hc
    refine kn_ret (we_cB ?_)
    exact hret _ h
  · have h := h.2 hc
    refine kn_next ?_
    try dsimp only
    refine kn_seq (kn_if (wt_test (we_ne2 (we_var rfl (we_sp2 (we_var rfl (we_var rfl (⟨insC_in, rg_I, ?_⟩))))))))
    refine sps_W0 (s18.1, (.inr v8 : ((Int × Int) ⊕ Int))) h (fun v30 h => ?_)
    refine ⟨rp_T, ⟨insC_in, (rg_C insC_in), ?_⟩⟩
    refine sps_W0 (s18.2.2, (.inl v30 : ((Int × Int) ⊕ Int))) h (fun v31 h => ?_)
    refine ⟨_, rfl, ⟨_, rfl, ⟨fun hc => ?_, fun hc => ?_⟩⟩⟩
    · have h := h.1 hc
      refine kn_ret (we_cB ?_)
      exact hret _ h
    · have h := h.2 hc
      refine kn_next ?_
      try dsimp only
      refine kn_seq (kn_forW (r := zI) (S := Unit) (fun s32 => [none, some (zAt b), some (iz (yL (zLp zI zI)) ys3), some (iz zI v8), some (iz (yL (zRatio C_Ratio)) ys11), some (iz (zRatio C_Ratio) s18.1), some (iz (zRatio C_Ratio) s18.2.1), some (iz (zRatio C_Ratio) s18.2.2), none, none, none]) (fun s32 => [cBag 4 b l]) () (wi_range (wa_cons (we_cb (wa_cons (we_var rfl (wa_nil (cy_len sy_L (fun e34 => (wa_nil (⟨_, rfl, (by have hb : big = 100000 := rfl; omega), (by have hb : big = 100000 := rfl; omega), ⟨_, _, _, _, _, rfl, rfl, (by and_intros), fun _ _ => tg_name, h, fun fr' le x33 s32 nx M hnx hbk h => ?_, fun s32 h => ?_⟩⟩)))))))))))
      · refine kn_seq (kn_asgL (i := 9) (r := zI) (we_op (we_var rfl (we_cI (ops_I0 (⟨_, rfl, fun other35 eother35 => ?_⟩))))))
        have h := h other35 eother35
        try dsimp only
        refine kn_seq (kn_if (wt_not (wt_b (we_callE (wa_cons (we_op (we_var rfl (we_var rfl ?_))))))))
        obtain ⟨v36, ev36, h⟩ := h
        refine oy_ixL ev36 (wa_cons (we_op (we_var rfl (we_var rfl ?_))))
        obtain ⟨v37, ev37, h⟩ := h
        refine oy_ixL ev37 (wa_cons (we_op (we_var rfl (we_var rfl ?_))))
        obtain ⟨v38, ev38, h⟩ := h
        refine oy_ixL ev38 (wa_cons (we_op (we_var rfl (we_var rfl ?_))))
        obtain ⟨v39, ev39, h⟩ := h
        refine oy_ixL ev39 (wa_nil ?_)
        refine sps_W0 (v36, v37, v38, v39) h (fun v40 h => ?_)
        refine ⟨_, rfl, ⟨fun hc => ?_, fun hc => ?_⟩⟩
        · have h := h.1 hc
          refine kn_ret (we_cB ?_)
          exact hret _ h
        · have h := h.2 hc
          refine kn_next ?_
          try dsimp only
          refine kn_if (wt_not (wt_b (we_callE (wa_cons (we_op (we_var rfl (we_var rfl ?_)))))))
          obtain ⟨v41, ev41, h⟩ := h
          refine oy_ixL ev41 (wa_cons (we_op (we_var rfl (we_var rfl ?_))))
          obtain ⟨v42, ev42, h⟩ := h
          refine oy_ixL ev42 (wa_cons (we_var rfl (wa_nil ?_)))
          refine sps_W0 (v41, v42, v8) h (fun v43 h => ?_)
          refine ⟨_, rfl, ⟨fun hc => ?_, fun hc => ?_⟩⟩
          · have h := h.1 hc
            refine kn_ret (we_cB ?_)
            exact hret _ h
          · have h := h.2 hc
            refine kn_next ?_
            exact hnx () _ _ h (by and_intros) rfl
      try dsimp only
      refine kn_ret (we_cB ?_)
      exact hret _ h
end

/-! ## ratp0 -/
section
theorem draw_ok {m : Int} {Q : Int → Prop} {X : HE → Prop} (h0 : 0 < m) (h1 : m ≤ 10 ^ 40) (h : ∀ n : Nat, (n : Int) < m → Q n) : m_draw m Q X := ⟨h0, h1, fun n n0 n1 => by
  obtain ⟨j, rfl⟩ : ∃ j : Nat, n = j := ⟨n.toNat, by omega⟩
  exact h j n1⟩
theorem cps_app (a b : Str) : (a ++ b).cps.toList = a.cps.toList ++ b.cps.toList := by
  show (a.cps ++ b.cps : Array Nat).toList = _
  simp
end

/-! ## textp -/
section
/-! plain texts -/
theorem joinI {S : Type} {f : (S → Prop) → Prop} {k : S → Prop} (h : f k) : joinD f k := h
theorem tryI {hd : HE → Prop} {f : (HE → Prop) → Prop} (h : f hd) : tryD hd f := h
theorem empty_app (z : Str) : Str.empty ++ z = z := by
  have h : (Str.empty ++ z).cps.toList = z.cps.toList := by rw [cps_app]; rfl
  cases z
  rw [show (Str.empty ++ _ : Str) = ⟨(Str.empty ++ _ : Str).cps⟩ from rfl]
  rw [Array.toList_inj.mp h]
theorem ne_empty {z : Str} (h : 0 < z.length) : z ≠ ("" : Str) := fun e => by
  rw [e] at h
  exact absurd h (by decide)
theorem sum_le {l : List Str} {m : Nat} (h : ∀ y ∈ l, y.length ≤ m) : (l.map (·.length)).sum ≤ m * l.length := by
  induction l with
  | nil => exact Nat.le_refl _
  | cons y l ih =>
    have h1 := h y (List.mem_cons_self ..)
    have h2 := ih fun z hz => h z (List.mem_cons_of_mem _ hz)
    rw [List.map_cons, List.sum_cons, List.length_cons, Nat.mul_add]
    omega
end

/-! ## ratm -/
section
/-! plain laws of ratios -/
theorem absI (a : Int) : (if a < 0 then -a else a) = (a.natAbs : Int) := by split <;> omega
theorem fmodN (m n : Nat) : Int.fmod (m : Int) (n : Int) = ((m % n : Nat) : Int) := by
  rw [Int.fmod_eq_emod_of_nonneg _ (Int.natCast_nonneg n)]
  exact (Int.natCast_emod m n).symm
theorem common_ok {a b : Int} {Q : Int → Prop} {X : HE → Prop} (h : Q (Int.gcd a b)) : m_common_divisor a b Q X := by
  unfold m_common_divisor
  rw [absI, absI]
  refine whileD_inv (fun s => ∃ m n : Nat, s = ((m : Int), (n : Int)) ∧ Nat.gcd m n = Int.gcd a b) (fun s => s.2.toNat) ⟨a.natAbs, b.natAbs, rfl, rfl⟩ ?_
  rintro s nx ⟨m, n, rfl, hg⟩ hnx
  by_cases hn : n = 0
  · subst hn
    refine ifD_f rfl ?_
    rw [Nat.gcd_zero_right] at hg
    show Q (m : Int)
    rw [hg]
    exact h
  · refine ifD_t (by simpa using hn) ⟨by show (n : Int) ≠ 0; omega, hnx _ ⟨n, m % n, by rw [← fmodN], ?_⟩ ?_⟩
    · rw [← hg, Nat.gcd_comm m n, Nat.gcd_rec n m, Nat.gcd_comm]
    · show (Int.fmod (m : Int) (n : Int)).toNat < ((n : Int)).toNat
      rw [fmodN]
      have := Nat.mod_lt m (Nat.pos_of_ne_zero hn)
      omega
theorem half_mod {n r : Nat} (hr : r < n) (h0 : 0 < r) : 2 * (n % r) < n := by
  have h1 := Nat.mod_lt n h0
  have h2 := Nat.div_add_mod n r
  have h3 : 1 ≤ n / r := (Nat.one_le_div_iff h0).mpr (Nat.le_of_lt hr)
  have h4 : r * 1 ≤ r * (n / r) := Nat.mul_le_mul_left r h3
  omega
theorem euclid {Q : Int → Prop} {body : Int → Int × Int → (Int × Int → Prop) → (Int × Int → Prop) → Prop} {bk : Int × Int → Prop} (hbk : ∀ s, Q s.1 → bk s)
    (hb : ∀ x s nx, (s.2 = 0 → Q s.1) → (s.2 ≠ 0 → nx (s.2, Int.fmod s.1 s.2)) → body x s nx bk) : ∀ (j : Nat) (xs : List Int) (m n : Nat), n < 2 ^ j → 2 * j ≤ xs.length → Q (Nat.gcd m n) → forD xs ((m : Int), (n : Int)) body bk
  | 0, xs, m, n, hn, hl, h => by
    have hn : n = 0 := by omega
    subst hn
    rw [Nat.gcd_zero_right] at h
    cases xs with
    | nil => exact hbk _ h
    | cons x xs => exact hb x _ _ (fun _ => h) fun e => absurd rfl e
  | j + 1, [], m, n, hn, hl, h => absurd hl (by simp)
  | j + 1, [x], m, n, hn, hl, h => absurd hl (by show ¬ 2 * (j + 1) ≤ 1; omega)
  | j + 1, x :: y :: xs, m, n, hn, hl, h => by
    by_cases h0 : n = 0
    · subst h0
      rw [Nat.gcd_zero_right] at h
      exact hb x _ _ (fun _ => h) fun e => absurd rfl e
    · refine hb x _ _ (fun e => absurd (Int.natCast_eq_zero.mp e) h0) fun _ => ?_
      show forD (y :: xs) ((n : Int), Int.fmod (m : Int) (n : Int)) body bk
      rw [fmodN]
      have hr := Nat.mod_lt m (Nat.pos_of_ne_zero h0)
      have e1 : Nat.gcd n (m % n) = Nat.gcd m n := by rw [Nat.gcd_comm m n, Nat.gcd_rec n m, Nat.gcd_comm]
      by_cases h1 : m % n = 0
      · rw [h1]
        rw [h1, Nat.gcd_zero_right] at e1
        exact hb y _ _ (fun _ => by show Q (n : Int); rw [e1]; exact h) fun e => absurd rfl e
      · refine hb y _ _ (fun e => absurd (Int.natCast_eq_zero.mp e) h1) fun _ => ?_
        show forD xs (((m % n : Nat) : Int), Int.fmod (n : Int) ((m % n : Nat) : Int)) body bk
        rw [fmodN]
        refine euclid hbk hb j xs _ _ ?_ (by simp only [List.length_cons] at hl; omega) ?_
        · have := half_mod hr (Nat.pos_of_ne_zero h1)
          rw [Nat.pow_succ] at hn
          omega
        · have e2 : Nat.gcd (m % n) (n % (m % n)) = Nat.gcd n (m % n) := by rw [Nat.gcd_comm n, Nat.gcd_rec (m % n) n, Nat.gcd_comm]
          rw [e2, e1]
          exact h
/-- no number here has more than 800 bits -/
def Sm (a : Int) : Prop := a.natAbs < 2 ^ 800
theorem intsF_len (a : Int) : ∀ n : Nat, (intsF a n).length = n := fun n => by simp [intsF]
theorem divisor_ok {a b : Int} {Q : Int → Prop} {X : HE → Prop} (hb : Sm b) (h : Q (Int.gcd a b)) : m__law_divisor a b Q X := by
  unfold m__law_divisor
  intro large e1 small e2
  subst e1 e2
  rw [absI, absI]
  refine euclid (Q := Q) (fun s hs => hs) (fun x s nx h1 h2 => ?_) 800 _ _ _ hb (by rw [intsF_len]; decide) h
  by_cases h0 : s.2 = 0
  · exact ifD_t (by simpa using h0) (h1 h0)
  · refine ifD_f (by simpa using h0) ⟨h0, fun r er => ?_⟩
    subst er
    exact h2 h0
theorem sm_log {a : Int} (h : Sm a) : a.natAbs.log2 < 9000 := by
  by_cases h0 : a.natAbs = 0
  · rw [h0]; decide
  · exact Nat.lt_of_lt_of_le ((Nat.log2_lt h0).mpr h) (by decide)
theorem sm_log8 {a : Int} (h : Sm a) : a.natAbs.log2 < 800 := by
  by_cases h0 : a.natAbs = 0
  · rw [h0]; decide
  · exact (Nat.log2_lt h0).mpr h
theorem sm_mul {a b : Int} (ha : Sm a) (hb : Sm b) : CMulW a b := by
  have := sm_log8 ha
  have := sm_log8 hb
  unfold CMulW
  omega
/-- the divisor with the bottom's sign -/
def sgd (t b : Int) : Int := if b < 0 then -(Int.gcd t b : Int) else Int.gcd t b
def ratD (t b : Int) : Int × Int := (t.fdiv (sgd t b), b.fdiv (sgd t b))
theorem sgd_ne {t b : Int} (h : b ≠ 0) : sgd t b ≠ 0 := by
  have : Int.gcd t b ≠ 0 := fun e => h (Int.gcd_eq_zero_iff.mp e).2
  unfold sgd
  split <;> omega
theorem sgd_abs (t b : Int) : (sgd t b).natAbs = Int.gcd t b := by
  unfold sgd
  split <;> omega
theorem sgd_sm {t b : Int} (h : b ≠ 0) (hb : Sm b) : Sm (sgd t b) := by
  unfold Sm
  rw [sgd_abs]
  exact Nat.lt_of_le_of_lt (Nat.le_of_dvd (by omega) (Int.gcd_dvd_natAbs_right t b)) hb
theorem sgd_dl (t b : Int) : sgd t b ∣ t := by
  unfold sgd
  split
  · exact (Int.neg_dvd).mpr (Int.gcd_dvd_left t b)
  · exact Int.gcd_dvd_left t b
theorem sgd_dr (t b : Int) : sgd t b ∣ b := by
  unfold sgd
  split
  · exact (Int.neg_dvd).mpr (Int.gcd_dvd_right t b)
  · exact Int.gcd_dvd_right t b
theorem rat_ok {t b : Int} {Q : Int × Int → Prop} {X : HE → Prop} (h0 : b ≠ 0) (hb : Sm b) (h : Q (ratD t b)) : m_Ratio___init__ t b Q X := by
  unfold m_Ratio___init__
  refine ifD_f (by simpa using h0) (common_ok ?_)
  have hd : ∀ s2, s2 = sgd t b → CDivZ t s2 ∧ CDivZ b s2 ∧ Q (Int.fdiv t s2, Int.fdiv b s2) := fun s2 e => by
    subst e
    exact ⟨⟨sgd_ne h0, sm_log (sgd_sm h0 hb)⟩, ⟨sgd_ne h0, sm_log (sgd_sm h0 hb)⟩, h⟩
  by_cases hn : b < 0
  · refine joinI (ifD_t (by simpa using hn) fun d e => hd d ?_)
    rw [e]; unfold sgd; rw [if_pos hn]
  · refine joinI (ifD_f (by simpa using hn) (hd _ ?_))
    unfold sgd; rw [if_neg hn]
theorem rat_bad {t : Int} {Q : Int × Int → Prop} {X : HE → Prop} (h : X (.badNumber 0)) : m_Ratio___init__ t 0 Q X := by
  unfold m_Ratio___init__
  exact ifD_t rfl h
/-- in lowest terms -/
def Low (p : Int × Int) : Prop := 1 ≤ p.2 ∧ Int.gcd p.1 p.2 = 1
theorem rat_eq1 {t b : Int} (h : b ≠ 0) : t = (ratD t b).1 * sgd t b := by
  show t = t.fdiv (sgd t b) * sgd t b
  rw [Int.fdiv_eq_ediv_of_dvd (sgd_dl t b)]
  exact (Int.ediv_mul_cancel (sgd_dl t b)).symm
theorem rat_eq2 {t b : Int} (h : b ≠ 0) : b = (ratD t b).2 * sgd t b := by
  show b = b.fdiv (sgd t b) * sgd t b
  rw [Int.fdiv_eq_ediv_of_dvd (sgd_dr t b)]
  exact (Int.ediv_mul_cancel (sgd_dr t b)).symm
theorem rat_low {t b : Int} (h : b ≠ 0) : Low (ratD t b) := by
  have e1 := rat_eq1 (t := t) h
  have e2 := rat_eq2 (t := t) h
  have hn := sgd_ne (t := t) h
  have hg := sgd_abs t b
  constructor
  · have hp : 0 < (ratD t b).2 := by
      unfold sgd at e2 hn
      by_cases hb : b < 0
      · rw [if_pos hb] at e2 hn
        rcases Int.lt_trichotomy (ratD t b).2 0 with hc | hc | hc
        · have := Int.mul_nonneg_of_nonpos_of_nonpos (Int.le_of_lt hc) (show -(Int.gcd t b : Int) ≤ 0 by omega)
          omega
        · rw [hc] at e2; omega
        · exact hc
      · rw [if_neg hb] at e2 hn
        rcases Int.lt_trichotomy (ratD t b).2 0 with hc | hc | hc
        · have := Int.mul_nonpos_of_nonpos_of_nonneg (Int.le_of_lt hc) (show 0 ≤ (Int.gcd t b : Int) by omega)
          omega
        · rw [hc] at e2; omega
        · exact hc
    omega
  · have e3 : Int.gcd t b = Int.gcd (ratD t b).1 (ratD t b).2 * (sgd t b).natAbs := by
      have z := Int.gcd_mul_right (ratD t b).1 (sgd t b) (ratD t b).2
      rw [← e1, ← e2] at z
      exact z
    rw [hg] at e3
    have h0 : 0 < Int.gcd t b := by omega
    exact Nat.eq_of_mul_eq_mul_right h0 (by omega)
theorem rat_val {t b : Int} (h : b ≠ 0) : (ratD t b).1 * b = t * (ratD t b).2 := by
  have e1 := rat_eq1 (t := t) h
  have e2 := rat_eq2 (t := t) h
  calc (ratD t b).1 * b = (ratD t b).1 * ((ratD t b).2 * sgd t b) := by rw [← e2]
    _ = ((ratD t b).1 * sgd t b) * (ratD t b).2 := by rw [Int.mul_comm (ratD t b).2, Int.mul_assoc]
    _ = t * (ratD t b).2 := by rw [← e1]
end

/-! ## ratn -/
section
theorem len_app (a b : Str) : (a ++ b).length = a.length + b.length := by
  show (a.cps ++ b.cps : Array Nat).size = _
  exact Array.size_append
/-- small enough to be told -/
def Sn (a : Int) : Prop := a.natAbs ≤ 10 ^ 30
theorem Sn.sm {a : Int} (h : Sn a) : Sm a := Nat.lt_of_le_of_lt h (by decide)
theorem Sn.cs {a : Int} (h : Sn a) : CStr a := Nat.lt_of_le_of_lt h (by decide)
theorem number_ok {Q : Int → Prop} {X : HE → Prop} (h : ∀ n : Int, n.natAbs ≤ 10 ^ 18 → Q n) : m__law_number Q X := by
  have last : ∀ s6 : Int, s6.natAbs ≤ 10 ^ 18 → joinD (fun j15 => m_draw (2 : Int) (fun v16 => ifD (decide (v16 = (1 : Int))) (∀ number17, number17 = (-s6) → j15 number17) (j15 s6)) noX) (fun s14 : Int => Q s14) := fun s6 h6 => by
    refine joinI (draw_ok (by decide) (by decide) fun n hn => ⟨fun _ z e => h z (by rw [e, Int.natAbs_neg]; exact h6), fun _ => h _ h6⟩)
  unfold m__law_number
  refine draw_ok (by decide) (by decide) fun k hk => draw_ok (by decide) (by decide) fun a ha => ?_
  refine joinD_inv (fun s : Int => s.natAbs ≤ 10 ^ 18) (fun s3 h3 => ?_) fun j hj => ⟨fun _ => draw_ok (by decide) (by decide) fun c hc => hj _ (by omega), fun _ => hj _ (by omega)⟩
  refine joinD_inv (fun s : Int => s.natAbs ≤ 10 ^ 18) last fun j hj => ⟨fun _ => ?_, fun _ => hj _ h3⟩
  have hp : CPow (10 : Int) (9 : Int) := ⟨by decide, by decide, by decide⟩
  refine ⟨hp, draw_ok (by decide) (by decide) fun c hc => ⟨hp, draw_ok (by decide) (by decide) fun e he => ?_⟩⟩
  have hc : c < 1000000000 := by have : ((10 : Int) ^ ((9 : Int)).toNat) = 1000000000 := by decide
                                 omega
  have he : e < 1000000000 := by have : ((10 : Int) ^ ((9 : Int)).toNat) = 1000000000 := by decide
                                 omega
  refine ⟨.inl ⟨by omega, by omega⟩, fun z ez => hj z ?_⟩
  subst ez
  rw [Int.natAbs_mul]
  exact Nat.le_trans (Nat.mul_le_mul (show ((c : Int)).natAbs ≤ 10 ^ 9 by omega) (show ((1 : Int) + e).natAbs ≤ 10 ^ 9 by omega)) (by decide)
theorem ratio_ok {p : Int × Int} {t b : Int} {Q : Bool → Prop} {X : HE → Prop} (hl : Low p) (h1 : Sm p.1) (h2 : Sm p.2) (ht : Sm t) (hb : Sm b) (e : p.1 * b = t * p.2) (h : Q true) : m__law_ratio p t b Q X := by
  unfold m__law_ratio m__law_int
  refine ⟨(fun z => by cases z), fun _ => ⟨(fun z => by cases z), fun _ => ifD_f rfl ?_⟩⟩
  have h1' : ¬ p.2 < 1 := by have := hl.1; omega
  refine ⟨fun z => absurd (of_decide_eq_true z) h1', fun _ => divisor_ok h2 ?_⟩
  rw [hl.2]
  refine ifD_f rfl ⟨sm_mul h1 hb, sm_mul ht h2, ?_⟩
  rw [e, decide_eq_true rfl]
  exact h
/-- what str tells -/
def strD (p : Int × Int) : Str := if p.2 = 1 then numS p.1 else (numS p.1 ++ ("/" : Str)) ++ numS p.2
theorem str_ok {p : Int × Int} {Q : Str → Prop} {X : HE → Prop} (h1 : Sn p.1) (h2 : Sn p.2) (h : Q (strD p)) : m_Ratio___str__ p Q X := by
  unfold m_Ratio___str__
  unfold strD at h
  have hb : big = 100000 := rfl
  have l1 := num_len h1.cs
  have l2 := num_len h2.cs
  have l3 : (("/" : Str)).length = 1 := by decide
  have l0 : Str.empty.length = 0 := rfl
  by_cases e : p.2 = 1
  · rw [if_pos e] at h
    exact ifD_t (by simpa using e) ⟨h1.cs, h⟩
  · rw [if_neg e] at h
    refine ifD_f (by simpa using e) ?_
    rw [empty_app]
    refine ⟨h1.cs, by omega, by omega, h2.cs, ?_, ?_, h⟩
    · rw [len_app]; omega
    · rw [len_app, len_app]; omega
theorem sgd_mul {t b f : Int} (hf : 0 < f) : sgd (t * f) (b * f) = sgd t b * f := by
  have e : (Int.gcd (t * f) (b * f) : Int) = Int.gcd t b * f := by
    rw [Int.gcd_mul_right]
    rw [Int.natCast_mul, Int.natAbs_of_nonneg (Int.le_of_lt hf)]
  unfold sgd
  rw [e]
  by_cases hb : b < 0
  · rw [if_pos hb, if_pos (Int.mul_neg_of_neg_of_pos hb hf), Int.neg_mul]
  · have : ¬ b * f < 0 := Int.not_lt.mpr (Int.mul_nonneg (by omega) (Int.le_of_lt hf))
    rw [if_neg hb, if_neg this]
theorem fdiv_mul {a d f : Int} (hf : 0 < f) (hd : d ∣ a) : (a * f).fdiv (d * f) = a.fdiv d := by
  rw [Int.fdiv_eq_ediv_of_dvd hd, Int.fdiv_eq_ediv_of_dvd (Int.mul_dvd_mul hd (Int.dvd_refl f))]
  exact Int.mul_ediv_mul_of_pos_left a d hf
theorem rat_mul {t b f : Int} (hf : 0 < f) : ratD (t * f) (b * f) = ratD t b := by
  unfold ratD
  rw [sgd_mul hf, fdiv_mul hf (sgd_dl t b), fdiv_mul hf (sgd_dr t b)]
theorem abs_le_mul {a d : Int} (h : d ≠ 0) : a.natAbs ≤ (a * d).natAbs := by
  rw [Int.natAbs_mul]
  exact Nat.le_mul_of_pos_right _ (by omega)
theorem rat_sn1 {t b : Int} {n : Nat} (h : b ≠ 0) (ht : t.natAbs ≤ n) : (ratD t b).1.natAbs ≤ n := by
  have e := rat_eq1 (t := t) h
  have := abs_le_mul (a := (ratD t b).1) (sgd_ne (t := t) h)
  rw [← e] at this
  omega
theorem rat_sn2 {t b : Int} {n : Nat} (h : b ≠ 0) (ht : b.natAbs ≤ n) : (ratD t b).2.natAbs ≤ n := by
  have e := rat_eq2 (t := t) h
  have := abs_le_mul (a := (ratD t b).2) (sgd_ne (t := t) h)
  rw [← e] at this
  omega
theorem rat_one (t : Int) : ratD t 1 = (t, 1) := by
  have e : sgd t 1 = 1 := by
    unfold sgd
    rw [if_neg (by decide), Int.gcd_one_right]
    rfl
  unfold ratD
  rw [e, Int.fdiv_one, Int.fdiv_one]
end

/-! ## ratq -/
section
theorem mul_cancel {a b d : Int} (h : d ≠ 0) (e : a * d = b * d) : a = b := Int.eq_of_mul_eq_mul_right h e
theorem val_eq {N D T B : Int} (h : D ≠ 0) (e : N * B = T * D) : (ratD N D).1 * B = T * (ratD N D).2 := by
  have v := rat_val (t := N) h
  refine mul_cancel h ?_
  generalize (ratD N D).1 = x at v ⊢
  generalize (ratD N D).2 = y at v ⊢
  grind
/-- bounds by powers of two -/
def Bd (n : Nat) (a : Int) : Prop := a.natAbs < 2 ^ n
theorem Bd.sm {n : Nat} {a : Int} (h : Bd n a) (hn : n ≤ 800) : Sm a := Nat.lt_of_lt_of_le h (Nat.pow_le_pow_right (by decide) hn)
theorem Bd.mul {m n : Nat} {a b : Int} (ha : Bd m a) (hb : Bd n b) : Bd (m + n) (a * b) := by
  unfold Bd
  rw [Int.natAbs_mul, Nat.pow_add]
  exact Nat.mul_lt_mul'' ha hb
theorem Bd.add {n : Nat} {a b : Int} (ha : Bd n a) (hb : Bd n b) : Bd (n + 1) (a + b) := by
  unfold Bd at *
  rw [Nat.pow_succ]
  have := Int.natAbs_add_le a b
  omega
theorem Bd.neg {n : Nat} {a : Int} (ha : Bd n a) : Bd n (-a) := by
  unfold Bd at *
  rw [Int.natAbs_neg]
  exact ha
theorem Bd.sub {n : Nat} {a b : Int} (ha : Bd n a) (hb : Bd n b) : Bd (n + 1) (a - b) := by
  rw [Int.sub_eq_add_neg]
  exact ha.add hb.neg
theorem Bd.up {m n : Nat} {a : Int} (h : Bd m a) (hn : m ≤ n) : Bd n a := Nat.lt_of_lt_of_le h (Nat.pow_le_pow_right (by decide) hn)
theorem Bd.mw {m n : Nat} {a b : Int} (ha : Bd m a) (hb : Bd n b) (hm : m ≤ 800) (hn : n ≤ 800) : CMulW a b := sm_mul (ha.sm hm) (hb.sm hn)
theorem rat_b1 {t b : Int} {n : Nat} (h : b ≠ 0) (ht : Bd n t) : Bd n (ratD t b).1 := Nat.lt_of_le_of_lt (rat_sn1 h (Nat.le_refl _)) ht
theorem rat_b2 {t b : Int} {n : Nat} (h : b ≠ 0) (hb : Bd n b) : Bd n (ratD t b).2 := Nat.lt_of_le_of_lt (rat_sn2 h (Nat.le_refl _)) hb
/-- a pair that is drawn, and its ratio -/
structure Pr (a p : Int × Int) : Prop where
  a1 : Bd 70 a.1
  a2 : Bd 70 a.2
  ap : 0 < a.2
  p1 : Bd 70 p.1
  p2 : Bd 70 p.2
  lo : Low p
  va : p.1 * a.2 = a.1 * p.2
theorem Pr.pp {a p : Int × Int} (h : Pr a p) : 0 < p.2 := by have := h.lo.1; omega
theorem pr_mk {a : Int × Int} (h1 : Bd 70 a.1) (h2 : Bd 70 a.2) (h3 : 0 < a.2) : Pr a (ratD a.1 a.2) :=
  ⟨h1, h2, h3, rat_b1 (by omega) h1, rat_b2 (by omega) h2, rat_low (by omega), rat_val (by omega)⟩
theorem terms_l {p : Int × Int} {Q : Int × Int → Prop} {X : HE → Prop} (h : Q p) : m_terms (.inl p) Q X := uD_l h
theorem terms_r {i : Int} {Q : Int × Int → Prop} {X : HE → Prop} (h : Q (i, 1)) : m_terms (.inr i) Q X := uD_r h
theorem rr_ok {N D T B : Int} {n m : Nat} {Q : Bool → Prop} {X : HE → Prop} (h : D ≠ 0) (hN : Bd n N) (hD : Bd n D) (hT : Bd m T) (hB : Bd m B) (hn : n ≤ 800) (hm : m ≤ 800) (e : N * B = T * D) (q : Q true) : m__law_ratio (ratD N D) T B Q X :=
  ratio_ok (rat_low h) ((rat_b1 h hN).sm hn) ((rat_b2 h hD).sm hn) (hT.sm hm) (hB.sm hm) (val_eq h e) q
theorem b1 : Bd 1 (1 : Int) := by show (1 : Int).natAbs < 2 ^ 1; decide
theorem ne_mul {a b : Int} (h1 : 0 < a) (h2 : 0 < b) : a * b ≠ 0 := by
  have := Int.mul_pos h1 h2
  omega
theorem low_uniq {p q : Int × Int} (hp : Low p) (hq : Low q) (e : p.1 * q.2 = q.1 * p.2) : p = q := by
  have key : ∀ {u v : Int × Int}, Low u → Low v → u.1 * v.2 = v.1 * u.2 → u.2.natAbs ∣ v.2.natAbs := fun {u v} hu hv h => by
    have h' := congrArg Int.natAbs h
    rw [Int.natAbs_mul, Int.natAbs_mul] at h'
    have c : Nat.Coprime u.2.natAbs u.1.natAbs := by
      unfold Nat.Coprime
      rw [Nat.gcd_comm]
      exact hu.2
    exact c.dvd_of_dvd_mul_left ⟨v.1.natAbs, by rw [h', Nat.mul_comm]⟩
  have h1 := key hp hq e
  have h2 := key hq hp e.symm
  have h3 := Nat.dvd_antisymm h1 h2
  have p0 := hp.1
  have q0 := hq.1
  have e2 : p.2 = q.2 := by omega
  rw [e2] at e
  have e1 : p.1 = q.1 := mul_cancel (by omega) e
  exact Prod.ext e1 e2
structure Same3 (x y u v : Int) : Prop where
  lt : x < y ↔ u < v
  gt : x > y ↔ u > v
  eq : x = y ↔ u = v
theorem same3 {x y u v k l : Int} (hk : 0 < k) (hl : 0 < l) (e1 : x * k = u * l) (e2 : y * k = v * l) : Same3 x y u v := by
  have a1 : x < y ↔ x * k < y * k := ⟨fun h => Int.mul_lt_mul_of_pos_right h hk, fun h => Int.lt_of_mul_lt_mul_right h (Int.le_of_lt hk)⟩
  have a2 : u < v ↔ u * l < v * l := ⟨fun h => Int.mul_lt_mul_of_pos_right h hl, fun h => Int.lt_of_mul_lt_mul_right h (Int.le_of_lt hl)⟩
  have a3 : y < x ↔ y * k < x * k := ⟨fun h => Int.mul_lt_mul_of_pos_right h hk, fun h => Int.lt_of_mul_lt_mul_right h (Int.le_of_lt hk)⟩
  have a4 : v < u ↔ v * l < u * l := ⟨fun h => Int.mul_lt_mul_of_pos_right h hl, fun h => Int.lt_of_mul_lt_mul_right h (Int.le_of_lt hl)⟩
  rw [e1, e2] at a1 a3
  refine ⟨a1.trans a2.symm, a3.trans a4.symm, ?_⟩
  constructor
  · intro h
    subst h
    exact mul_cancel (by omega) (e1.symm.trans e2)
  · intro h
    subst h
    exact mul_cancel (by omega) (e1.trans e2.symm)
theorem eqt {p q : Int × Int} : (decide (p.1 = q.1) && decide (p.2 = q.2)) = decide (p = q) := by
  rw [← Bool.decide_and]
  exact decide_eq_decide.mpr ⟨fun ⟨h1, h2⟩ => Prod.ext h1 h2, fun h => by rw [h]; exact ⟨rfl, rfl⟩⟩
theorem low_one (n : Int) : Low (n, 1) := ⟨Int.le_refl 1, Int.gcd_one_right n⟩
theorem lt_ok {p : Int × Int} {o : (Int × Int) ⊕ Int} {q : Int × Int} (ho : o = .inl q ∨ ∃ i, o = .inr i ∧ q = (i, 1)) {Q : Bool → Prop} {X : HE → Prop} (w1 : CMulW p.1 q.2) (w2 : CMulW q.1 p.2) :
    (Q (decide (p.1 * q.2 < q.1 * p.2)) → m_Ratio___lt__ p o Q X) ∧ (Q (decide (p.1 * q.2 ≤ q.1 * p.2)) → m_Ratio___le__ p o Q X) ∧ (Q (decide (p.1 * q.2 > q.1 * p.2)) → m_Ratio___gt__ p o Q X) ∧ (Q (decide (p.1 * q.2 ≥ q.1 * p.2)) → m_Ratio___ge__ p o Q X) ∧ (Q (decide (p = q)) → m_Ratio___eq__ p o Q X) := by
  have t : ∀ {R : Int × Int → Prop} {Y : HE → Prop}, R q → m_terms o R Y := fun {R Y} h => by
    rcases ho with rfl | ⟨i, rfl, rfl⟩
    · exact terms_l h
    · exact terms_r h
  refine ⟨fun h => ifD_f rfl (t ⟨w1, w2, h⟩), fun h => ifD_f rfl (t ⟨w1, w2, h⟩), fun h => ifD_f rfl (t ⟨w1, w2, h⟩), fun h => ifD_f rfl (t ⟨w1, w2, h⟩), fun h => ifD_f rfl (t ?_)⟩
  rw [eqt]
  exact h
theorem pair_ok {Q : Int × Int → Prop} {X : HE → Prop} (h : ∀ a : Int × Int, a.1.natAbs ≤ 10 ^ 18 → a.2.natAbs ≤ 10 ^ 18 → 0 < a.2 → Q a) : m__law_pair Q X := by
  unfold m__law_pair
  refine number_ok fun t ht => number_ok fun b hb => joinD_inv (fun s : Int => s ≠ 0 ∧ s.natAbs ≤ 10 ^ 18) (fun s hs => ⟨fun e => ?_, fun e => ?_⟩) fun j hj => ⟨fun _ => hj 1 ⟨by decide, by decide⟩, fun e => hj b ⟨of_decide_eq_false e, hb⟩⟩
  · have e := of_decide_eq_true e
    exact h _ (by show (-t).natAbs ≤ _; rw [Int.natAbs_neg]; exact ht) (by show (-s).natAbs ≤ _; rw [Int.natAbs_neg]; exact hs.2) (by show 0 < -s; omega)
  · have e := of_decide_eq_false e
    exact h _ ht hs.2 (by show 0 < s; have := hs.1; omega)
theorem bd_of {a : Int} (h : a.natAbs ≤ 3 * 10 ^ 18) : Bd 70 a := Nat.lt_of_le_of_lt h (by decide)
end

/-! ## k07p -/
section
/-- p is the ratio n / d -/
structure Is (p : Int × Int) (n d : Int) : Prop where
  lo : Low p
  dp : 0 < d
  va : p.1 * d = n * p.2
theorem Is.pp {p : Int × Int} {n d : Int} (h : Is p n d) : 0 < p.2 := by have := h.lo.1; omega
theorem is_rat {n d : Int} (h : 0 < d) : Is (ratD n d) n d := ⟨rat_low (by omega), h, rat_val (by omega)⟩
theorem is_uniq {p q : Int × Int} {n d m e : Int} (P : Is p n d) (Q : Is q m e) (h : n * e = m * d) : p = q := by
  refine low_uniq P.lo Q.lo ?_
  have h1 := P.va
  have h2 := Q.va
  have hde := ne_mul P.dp Q.dp
  refine mul_cancel hde ?_
  grind
theorem is_to {p : Int × Int} {n d m e : Int} (P : Is p n d) (he : 0 < e) (h : n * e = m * d) : Is p m e := by
  refine ⟨P.lo, he, ?_⟩
  have h1 := P.va
  have hd := P.dp
  refine mul_cancel (show d ≠ 0 by omega) ?_
  grind
theorem is_add {p q : Int × Int} {n d m e : Int} (P : Is p n d) (Q : Is q m e) : Is (ratD (p.1 * q.2 + q.1 * p.2) (p.2 * q.2)) (n * e + m * d) (d * e) := by
  have h1 := P.va
  have h2 := Q.va
  exact is_to (is_rat (Int.mul_pos P.pp Q.pp)) (Int.mul_pos P.dp Q.dp) (by grind)
theorem is_sub {p q : Int × Int} {n d m e : Int} (P : Is p n d) (Q : Is q m e) : Is (ratD (p.1 * q.2 - q.1 * p.2) (p.2 * q.2)) (n * e - m * d) (d * e) := by
  have h1 := P.va
  have h2 := Q.va
  exact is_to (is_rat (Int.mul_pos P.pp Q.pp)) (Int.mul_pos P.dp Q.dp) (by grind)
theorem is_mul {p q : Int × Int} {n d m e : Int} (P : Is p n d) (Q : Is q m e) : Is (ratD (p.1 * q.1) (p.2 * q.2)) (n * m) (d * e) := by
  have h1 := P.va
  have h2 := Q.va
  exact is_to (is_rat (Int.mul_pos P.pp Q.pp)) (Int.mul_pos P.dp Q.dp) (by grind)
theorem is_int (i : Int) : Is (i, 1) i 1 := ⟨low_one i, by decide, rfl⟩
/-- a ratio in lowest terms, below 2 ^ n -/
structure Vb (n : Nat) (p : Int × Int) : Prop where
  lo : Low p
  b1 : Bd n p.1
  b2 : Bd n p.2
theorem Vb.pp {n : Nat} {p : Int × Int} (h : Vb n p) : 0 < p.2 := by have := h.lo.1; omega
theorem Vb.up {m n : Nat} {p : Int × Int} (h : Vb m p) (e : m ≤ n) : Vb n p := ⟨h.lo, h.b1.up e, h.b2.up e⟩
theorem vb_rat {n : Nat} {t b : Int} (h : b ≠ 0) (h1 : Bd n t) (h2 : Bd n b) : Vb n (ratD t b) := ⟨rat_low h, rat_b1 h h1, rat_b2 h h2⟩
def addD (p q : Int × Int) : Int × Int := ratD (p.1 * q.2 + q.1 * p.2) (p.2 * q.2)
def subD (p q : Int × Int) : Int × Int := ratD (p.1 * q.2 - q.1 * p.2) (p.2 * q.2)
def mulD (p q : Int × Int) : Int × Int := ratD (p.1 * q.1) (p.2 * q.2)
/-- what the second operand stands for -/
def Oth (o : (Int × Int) ⊕ Int) (q : Int × Int) : Prop := o = .inl q ∨ ∃ i, o = .inr i ∧ q = (i, 1)
theorem oth_l {q : Int × Int} : Oth (.inl q) q := .inl rfl
theorem oth_r {i : Int} : Oth (.inr i) (i, 1) := .inr ⟨i, rfl, rfl⟩
theorem oth_t {o : (Int × Int) ⊕ Int} {q : Int × Int} {R : Int × Int → Prop} {Y : HE → Prop} (ho : Oth o q) (h : R q) : m_terms o R Y := by
  rcases ho with rfl | ⟨i, rfl, rfl⟩
  · exact terms_l h
  · exact terms_r h
section
variable {m k : Nat} {p q : Int × Int} {o : (Int × Int) ⊕ Int} {Q : Int × Int → Prop} {X : HE → Prop}
theorem add_ok (ho : Oth o q) (hp : Vb m p) (hq : Vb k q) (hl : m + k + 1 ≤ 800) (h : Vb (m + k + 1) (addD p q) → Q (addD p q)) : m_Ratio___add__ p o Q X := by
  have hd := ne_mul hp.pp hq.pp
  have d : Bd (m + k + 1) (p.2 * q.2) := (hp.b2.mul hq.b2).up (by omega)
  refine oth_t ho ⟨hp.b1.mw hq.b2 (by omega) (by omega), hq.b1.mw hp.b2 (by omega) (by omega), hp.b2.mw hq.b2 (by omega) (by omega), rat_ok hd (d.sm hl) (h (vb_rat hd ?_ d))⟩
  have e := hq.b1.mul hp.b2
  rw [Nat.add_comm k m] at e
  exact (hp.b1.mul hq.b2).add e
theorem sub_ok (ho : Oth o q) (hp : Vb m p) (hq : Vb k q) (hl : m + k + 1 ≤ 800) (h : Vb (m + k + 1) (subD p q) → Q (subD p q)) : m_Ratio___sub__ p o Q X := by
  have hd := ne_mul hp.pp hq.pp
  have d : Bd (m + k + 1) (p.2 * q.2) := (hp.b2.mul hq.b2).up (by omega)
  refine oth_t ho ⟨hp.b1.mw hq.b2 (by omega) (by omega), hq.b1.mw hp.b2 (by omega) (by omega), hp.b2.mw hq.b2 (by omega) (by omega), rat_ok hd (d.sm hl) (h (vb_rat hd ?_ d))⟩
  have e := hq.b1.mul hp.b2
  rw [Nat.add_comm k m] at e
  exact (hp.b1.mul hq.b2).sub e
theorem mul_ok (ho : Oth o q) (hp : Vb m p) (hq : Vb k q) (hl : m + k ≤ 800) (h : Vb (m + k) (mulD p q) → Q (mulD p q)) : m_Ratio___mul__ p o Q X := by
  have hd := ne_mul hp.pp hq.pp
  exact oth_t ho ⟨hp.b1.mw hq.b1 (by omega) (by omega), hp.b2.mw hq.b2 (by omega) (by omega), rat_ok hd ((hp.b2.mul hq.b2).sm hl) (h (vb_rat hd (hp.b1.mul hq.b1) (hp.b2.mul hq.b2)))⟩
end
end

/-! ## k07q -/
section
theorem fdiv_pos {N D T B : Int} (hD : 0 < D) (hB : 0 < B) (e : N * B = T * D) : N.fdiv D * B ≤ T ∧ T < (N.fdiv D + 1) * B := by
  rw [Int.fdiv_eq_ediv_of_nonneg N (Int.le_of_lt hD)]
  have h1 : N / D * D ≤ N := Int.ediv_mul_le N (by omega)
  have h2 : N < (N / D + 1) * D := Int.lt_ediv_add_one_mul_self N hD
  generalize N / D = f at h1 h2 ⊢
  constructor
  · refine Int.le_of_mul_le_mul_right ?_ hD
    have := Int.mul_le_mul_of_nonneg_right h1 (Int.le_of_lt hB)
    rw [← e]
    calc f * B * D = f * D * B := by grind
      _ ≤ N * B := this
  · refine Int.lt_of_mul_lt_mul_right ?_ (Int.le_of_lt hD)
    have := Int.mul_lt_mul_of_pos_right h2 hB
    rw [← e]
    calc N * B < (f + 1) * D * B := this
      _ = (f + 1) * B * D := by grind
theorem fdiv_any {N D T B : Int} (hD : D ≠ 0) (hB : 0 < B) (e : N * B = T * D) : N.fdiv D * B ≤ T ∧ T < (N.fdiv D + 1) * B := by
  by_cases h : 0 < D
  · exact fdiv_pos h hB e
  · have := fdiv_pos (N := -N) (D := -D) (T := T) (B := B) (by omega) hB (by grind)
    have e2 : (-N).fdiv (-D) = N.fdiv D := by
      have h1 : 0 < -D := by omega
      simp [Int.neg_fdiv_neg]
    rw [e2] at this
    exact this
theorem fdiv_bd {N D : Int} (hD : D ≠ 0) : (N.fdiv D).natAbs ≤ N.natAbs + 1 := by
  have key : ∀ {N D : Int}, 0 < D → (N.fdiv D).natAbs ≤ N.natAbs + 1 := fun {N D} h => by
    have := fdiv_pos (N := N) (D := D) (T := N) (B := D) h h rfl
    generalize N.fdiv D = f at this ⊢
    obtain ⟨h1, h2⟩ := this
    rcases Int.lt_or_le f 0 with hf | hf
    · by_cases hg : f + 1 < 0
      · have : (f + 1) * D ≤ (f + 1) * 1 := Int.mul_le_mul_of_nonpos_left (by omega) (by omega)
        omega
      · omega
    · have : f * 1 ≤ f * D := Int.mul_le_mul_of_nonneg_left (by omega) hf
      omega
  by_cases h : 0 < D
  · exact key h
  · have := key (N := -N) (D := -D) (by omega)
    have e2 : (-N).fdiv (-D) = N.fdiv D := by simp [Int.neg_fdiv_neg]
    rw [e2, Int.natAbs_neg] at this
    exact this
end

/-! ## k07r -/
section
theorem bd_ne {m : Nat} {a : Int} (h : Bd m a) : Bd (m + 1) (a + 1) := by
  unfold Bd at *
  have := Int.natAbs_add_le a 1
  have : 0 < 2 ^ m := Nat.pow_pos (by decide)
  rw [Nat.pow_succ]
  omega
theorem fd_bd {m : Nat} {N D : Int} (hD : D ≠ 0) (h : Bd m N) : Bd (m + 1) (N.fdiv D) := by
  unfold Bd at *
  have := fdiv_bd (N := N) hD
  have : 0 < 2 ^ m := Nat.pow_pos (by decide)
  rw [Nat.pow_succ]
  omega
theorem is_self {p : Int × Int} (h : Low p) : Is p p.1 p.2 := ⟨h, by have := h.1; omega, rfl⟩
section
variable {m k : Nat} {p q : Int × Int} {o : (Int × Int) ⊕ Int} {X : HE → Prop}
theorem over_ok {Q : Option ((Int × Int) ⊕ (Str × Int)) → Prop} (ho : Oth o q) (hp : Vb m p) (hq : Vb k q) (hl : m + k ≤ 800) (h0 : q.1 = 0 → Q (some (.inr (("BadNumber" : Str), 0)))) (h1 : q.1 ≠ 0 → Q (some (.inl (ratD (p.1 * q.2) (p.2 * q.1))))) : m__law_over p o Q X := by
  unfold m__law_over m_Ratio_over
  refine joinI (tryI (oth_t ho ⟨hp.b1.mw hq.b2 (by omega) (by omega), hp.b2.mw hq.b1 (by omega) (by omega), ?_⟩))
  by_cases e : q.1 = 0
  · rw [e, Int.mul_zero]
    exact rat_bad (fun t et => et ▸ h0 e)
  · have hd : p.2 * q.1 ≠ 0 := Int.mul_ne_zero (by have := hp.pp; omega) e
    exact rat_ok hd ((hp.b2.mul hq.b1).sm hl) (fun t et => et ▸ h1 e)
theorem fl_ok {Q : Int → Prop} (ho : Oth o q) (hp : Vb m p) (hq : Vb k q) (hl : m + k ≤ 800) (h0 : q.1 = 0 → X (.badNumber 0)) (h1 : q.1 ≠ 0 → Q (Int.fdiv (p.1 * q.2) (p.2 * q.1))) : m_Ratio___floordiv__ p o Q X := by
  unfold m_Ratio___floordiv__
  refine oth_t ho ⟨fun e => h0 (of_decide_eq_true e), fun e => ?_⟩
  have e := of_decide_eq_false e
  have hd : p.2 * q.1 ≠ 0 := Int.mul_ne_zero (by have := hp.pp; omega) e
  exact ⟨hp.b1.mw hq.b2 (by omega) (by omega), hp.b2.mw hq.b1 (by omega) (by omega), ⟨hd, sm_log ((hp.b2.mul hq.b1).sm hl)⟩, h1 e⟩
theorem floorR_ok {Q : Option (Int ⊕ (Str × Int)) → Prop} (hp : Vb m p) (hq : Vb k q) (hl : m + k ≤ 800) (h0 : q.1 = 0 → Q (some (.inr (("BadNumber" : Str), 0)))) (h1 : q.1 ≠ 0 → Q (some (.inl (Int.fdiv (p.1 * q.2) (p.2 * q.1))))) : m__law_floorR p q Q X := by
  unfold m__law_floorR
  exact joinI (tryI (fl_ok oth_l hp hq hl (fun e t et => et ▸ h0 e) fun e t et => et ▸ h1 e))
theorem floorI_ok {n : Int} {Q : Option (Int ⊕ (Str × Int)) → Prop} (hp : Vb m p) (hq : Vb k (n, 1)) (hl : m + k ≤ 800) (h0 : n = 0 → Q (some (.inr (("BadNumber" : Str), 0)))) (h1 : n ≠ 0 → Q (some (.inl (Int.fdiv (p.1 * 1) (p.2 * n))))) : m__law_floorI p n Q X := by
  unfold m__law_floorI
  exact joinI (tryI (fl_ok oth_r hp hq hl (fun e t et => et ▸ h0 e) fun e t et => et ▸ h1 e))
theorem floorJ_ok {n : Int} {Q : Option (Int ⊕ (Str × Int)) → Prop} (hp : Vb m p) (hn : Bd k n) (hl : m + k ≤ 800) (h0 : p.1 = 0 → Q (some (.inr (("BadNumber" : Str), 0)))) (h1 : p.1 ≠ 0 → Q (some (.inl (Int.fdiv (n * p.2) p.1)))) : m__law_floorJ n p Q X := by
  unfold m__law_floorJ m_Ratio___rfloordiv__
  refine joinI (tryI ⟨fun e t et => et ▸ h0 (of_decide_eq_true e), fun e => ?_⟩)
  have e := of_decide_eq_false e
  exact ⟨hn.mw hp.b2 (by omega) (by omega), ⟨e, sm_log (hp.b1.sm (by omega))⟩, fun t et => et ▸ h1 e⟩
theorem part0_ok {T B : Int} {Q : Bool → Prop} (e : B = 0) (h : Q true) : m__law_parted (some (.inr (("BadNumber" : Str), 0))) (some (.inr (("BadNumber" : Str), 0))) T B Q X := by
  subst e
  refine ifD_t rfl ⟨_, rfl, _, rfl, ?_⟩
  have : (true && ((decide ((("BadNumber" : Str), (0 : Int)) = (("BadNumber" : Str), (0 : Int)))) && (true && (decide ((("BadNumber" : Str), (0 : Int)) = (("BadNumber" : Str), (0 : Int))))))) = true := by simp
  rw [this]
  exact h
theorem part_pos {n : Nat} {N D T B : Int} {Q : Bool → Prop} (hD : D ≠ 0) (hB : 0 < B) (bN : Bd n N) (bD : Bd n D) (bT : Bd n T) (bB : Bd n B) (hn : n + 2 ≤ 800) (e : N * B = T * D) (h : Q true) :
    m__law_ratio (ratD N D) T B (fun v9 => orD (!v9) (fun k11 => m__law_int (N.fdiv D) (fun v12 => k11 (!v12)) noX) (fun c10 => ifD c10 (Q false) (CMulW (N.fdiv D) B ∧ andD (decide ((N.fdiv D * B) ≤ T)) (fun k15 => CMulW (N.fdiv D + (1 : Int)) B ∧ k15 (decide (T < ((N.fdiv D + (1 : Int)) * B)))) (fun c14 => Q c14)))) noX := by
  refine rr_ok hD bN bD bT bB (by omega) (by omega) e ?_
  have f := fd_bd hD bN
  obtain ⟨h1, h2⟩ := fdiv_any hD hB e
  have h1 := decide_eq_true h1
  have h2 := decide_eq_true h2
  refine orD_ok (c := false) (fun _ k hk => ?_) ?_
  · unfold m__law_int
    exact hk
  · refine ifD_f rfl ⟨f.mw bB (by omega) (by omega), ?_⟩
    refine andD_ok (c := true) (fun _ k hk => ⟨(bd_ne f).mw bB (by omega) (by omega), ?_⟩) ?_
    · rw [h2]; exact hk
    · rw [h1]; exact h
theorem part_ok {n : Nat} {N D T B : Int} {Q : Bool → Prop} (hD : D ≠ 0) (hB : B ≠ 0) (bN : Bd n N) (bD : Bd n D) (bT : Bd n T) (bB : Bd n B) (hn : n + 2 ≤ 800) (e : N * B = T * D) (h : Q true) :
    m__law_parted (some (.inl (ratD N D))) (some (.inl (N.fdiv D))) T B Q X := by
  unfold m__law_parted
  refine ifD_f (by simpa using hB) (joinI ?_)
  by_cases hp : B < 0
  · refine ifD_t (by simpa using hp) fun t et b eb => ⟨_, rfl, _, rfl, ?_⟩
    subst et eb
    exact part_pos hD (by omega) bN bD bT.neg bB.neg hn (by grind) h
  · refine ifD_f (by simpa using hp) ⟨_, rfl, _, rfl, ?_⟩
    exact part_pos hD (by omega) bN bD bT bB hn e h
theorem eq_ok {Q : Bool → Prop} (ho : Oth o q) (h : Q (decide (p = q))) : m_Ratio___eq__ p o Q X := by
  refine ifD_f rfl (oth_t ho ?_)
  rw [eqt]
  exact h
theorem less_ok {Q : Bool → Prop} (ho : Oth o q) (hp : Vb m p) (hq : Vb k q) (h1 : m ≤ 800) (h2 : k ≤ 800) (h : Q (decide (p.1 * q.2 < q.1 * p.2))) : m_Ratio___lt__ p o Q X :=
  (lt_ok ho (hp.b1.mw hq.b2 h1 h2) (hq.b1.mw hp.b2 h2 h1)).1 h
theorem low_neg (h : Low p) : Low (-p.1, p.2) := ⟨h.1, by show Int.gcd (-p.1) p.2 = 1; rw [Int.neg_gcd]; exact h.2⟩
theorem rat_self (h : Low p) : ratD p.1 p.2 = p := low_uniq (rat_low (by have := h.1; omega)) h (rat_val (by have := h.1; omega))
theorem neg_ok {Q : Int × Int → Prop} (hp : Vb m p) (hl : m ≤ 800) (h : Vb m (-p.1, p.2) → Q (-p.1, p.2)) : m_Ratio___neg__ p Q X := by
  unfold m_Ratio___neg__
  refine rat_ok (by have := hp.pp; omega) (hp.b2.sm hl) ?_
  have := rat_self (low_neg hp.lo)
  rw [this]
  exact h ⟨low_neg hp.lo, hp.b1.neg, hp.b2⟩
end
/-- the sum of two pairs, as it stands -/
def pl (p q : Int × Int) : Int × Int := (p.1 * q.2 + q.1 * p.2, p.2 * q.2)
def sumP (l : List (Int × Int)) : Int × Int := l.foldr pl (0, 1)
theorem pl_assoc (a b c : Int × Int) : pl (pl a b) c = pl a (pl b c) := Prod.ext (by show _ = _; unfold pl; grind) (by show _ = _; unfold pl; grind)
theorem pl_zero (a : Int × Int) : pl (0, 1) a = a := Prod.ext (by unfold pl; simp) (by unfold pl; simp)
theorem pl_zero' (a : Int × Int) : pl a (0, 1) = a := Prod.ext (by unfold pl; simp) (by unfold pl; simp)
theorem sum_app (l m : List (Int × Int)) : sumP (l ++ m) = pl (sumP l) (sumP m) := by
  induction l with
  | nil => rw [List.nil_append]; exact (pl_zero _).symm
  | cons a l ih =>
    show pl a (sumP (l ++ m)) = _
    rw [ih, ← pl_assoc]; rfl
theorem sum_one (a : Int × Int) : sumP [a] = a := pl_zero' a
end

/-! ## k07s -/
section
theorem Pr.vb {a p : Int × Int} (h : Pr a p) : Vb 70 p := ⟨h.lo, h.p1, h.p2⟩
theorem quot_mul {p q : Int × Int} (hp : Low p) (hq : 0 < q.2) (h0 : q.1 ≠ 0) : mulD (ratD (p.1 * q.2) (p.2 * q.1)) q = p ∧ mulD q (ratD (p.1 * q.2) (p.2 * q.1)) = p := by
  have hD : p.2 * q.1 ≠ 0 := Int.mul_ne_zero (by have := hp.1; omega) h0
  have v := rat_val (t := p.1 * q.2) hD
  have zp : 0 < (ratD (p.1 * q.2) (p.2 * q.1)).2 := by have := (rat_low (t := p.1 * q.2) hD).1; omega
  unfold mulD
  generalize ratD (p.1 * q.2) (p.2 * q.1) = z at v zp ⊢
  have hm : z.2 * q.2 ≠ 0 := ne_mul zp hq
  have hm' : q.2 * z.2 ≠ 0 := ne_mul hq zp
  refine ⟨low_uniq (rat_low hm) hp ?_, low_uniq (rat_low hm') hp ?_⟩
  · have r := rat_val (t := z.1 * q.1) hm
    generalize ratD (z.1 * q.1) (z.2 * q.2) = R at r ⊢
    refine mul_cancel hm ?_
    grind
  · have r := rat_val (t := q.1 * z.1) hm'
    generalize ratD (q.1 * z.1) (q.2 * z.2) = R at r ⊢
    refine mul_cancel hm' ?_
    grind
theorem zero_iff {x y u v : Int} (hy : 0 < y) (hv : 0 < v) (e : x * v = u * y) : x = 0 ↔ u = 0 := by
  constructor
  · intro h
    rw [h, Int.zero_mul] at e
    rcases Int.mul_eq_zero.mp e.symm with h | h <;> omega
  · intro h
    rw [h, Int.zero_mul] at e
    rcases Int.mul_eq_zero.mp e with h | h <;> omega
theorem neg_iff {x n d e : Int} (hd : 0 < d) (he : 0 < e) (h : x * d = n * e) : x < 0 ↔ n < 0 := (same3 (y := 0) (v := 0) hd he h (by simp)).lt
theorem two_ok {a b p q : Int × Int} {Q : Bool → Prop} {X : HE → Prop} (A : Pr a p) (B : Pr b q) (h : Q true) : m__law_two p q a b Q X := by
  have P := A.vb
  have R := B.vb
  have va := A.va
  have vb := B.va
  have z : q.1 = 0 ↔ b.1 = 0 := zero_iff B.pp B.ap vb
  have w1 := A.a1.mw B.a2 (by decide) (by decide)
  have w2 := A.a2.mw B.a1 (by decide) (by decide)
  unfold m__law_two
  refine over_ok oth_l P R (by decide) (fun e => ?c1) (fun e => ?c2)
  case' c1 =>
    refine floorR_ok P R (by decide) (fun _ => ⟨w1, w2, part0_ok (by rw [z.mp e, Int.mul_zero]) (ifD_f rfl (andD_ok (c := false) (fun t => absurd t (by simp [z.mp e])) ?_))⟩) fun e2 => absurd e e2
  case' c2 =>
    have hb : b.1 ≠ 0 := fun c => e (z.mpr c)
    have hD : p.2 * q.1 ≠ 0 := Int.mul_ne_zero (by have := A.pp; omega) e
    have hB : a.2 * b.1 ≠ 0 := Int.mul_ne_zero (by have := A.ap; omega) hb
    refine floorR_ok P R (by decide) (fun e2 => absurd e2 e) fun _ => ⟨w1, w2, part_ok hD hB (P.b1.mul R.b2) (P.b2.mul R.b1) (A.a1.mul B.a2) (A.a2.mul B.a1) (by decide) (by grind) (ifD_f rfl (andD_ok (c := false) (fun _ k hk => ?_) ?_))⟩
    · obtain ⟨m1, m2⟩ := quot_mul P.lo R.pp e
      have vz : Vb 140 (ratD (p.1 * q.2) (p.2 * q.1)) := vb_rat hD (P.b1.mul R.b2) (P.b2.mul R.b1)
      refine ⟨_, rfl, mul_ok oth_l vz R (by decide) fun _ => eq_ok oth_l ?_⟩
      rw [m1, decide_eq_true rfl]
      refine orD_ok (c := false) (fun _ k2 hk2 => ⟨_, rfl, mul_ok oth_l R vz (by decide) fun _ => eq_ok oth_l ?_⟩) hk
      rw [m2, decide_eq_true rfl]
      exact hk2
    rw [Bool.and_false]
  all_goals
    refine ifD_f (by simp) (sub_ok oth_l P R (by decide) fun vs => less_ok oth_r vs (k := 1) ⟨low_one 0, by show (0 : Int).natAbs < 2; decide, b1⟩ (by decide) (by decide) (less_ok oth_l P R (by decide) (by decide) ?_))
    have e1 : decide ((subD p q).1 * 1 < 0 * (subD p q).2) = decide (p.1 * q.2 < q.1 * p.2) := by
      refine decide_eq_decide.mpr ?_
      have i := is_sub (is_self P.lo) (is_self R.lo)
      have j := neg_iff i.dp i.pp i.va
      show (ratD (p.1 * q.2 - q.1 * p.2) (p.2 * q.2)).1 * 1 < 0 * _ ↔ _
      rw [Int.mul_one, Int.zero_mul, j]
      omega
    rw [e1, decide_eq_true rfl]
    refine orD_ok (c := false) (fun _ k hk => less_ok oth_l P R (by decide) (by decide) (neg_ok R (by decide) fun nr => neg_ok P (by decide) fun np => less_ok oth_l nr np (by decide) (by decide) ?_)) ?_
    · have e2 : decide ((-q.1, q.2).1 * (-p.1, p.2).2 < (-p.1, p.2).1 * (-q.1, q.2).2) = decide (p.1 * q.2 < q.1 * p.2) := by
        refine decide_eq_decide.mpr ?_
        show -q.1 * p.2 < -p.1 * q.2 ↔ _
        rw [Int.neg_mul, Int.neg_mul]
        omega
      rw [e2, decide_eq_true rfl]
      exact hk
    · refine ifD_f rfl (sub_ok oth_l P R (by decide) fun vs => add_ok oth_l vs R (by decide) fun _ => eq_ok oth_l ?_)
      have i1 : addD (subD p q) q = p := is_uniq (is_add (is_sub (is_self P.lo) (is_self R.lo)) (is_self R.lo)) (is_self P.lo) (by grind)
      rw [i1, decide_eq_true rfl]
      refine andD_ok (c := true) (fun _ k hk => add_ok oth_l P R (by decide) fun vd => mul_ok oth_l vd P (by decide) fun _ => mul_ok oth_l P P (by decide) fun v1 => mul_ok oth_l R P (by decide) fun v2 => add_ok oth_l v1 v2 (by decide) fun _ => eq_ok oth_l ?_) h
      have i2 : mulD (addD p q) p = addD (mulD p p) (mulD q p) := is_uniq (is_mul (is_add (is_self P.lo) (is_self R.lo)) (is_self P.lo)) (is_add (is_mul (is_self P.lo) (is_self P.lo)) (is_mul (is_self R.lo) (is_self P.lo))) (by grind)
      rw [i2, decide_eq_true rfl]
      exact hk
theorem whole_ok {a p : Int × Int} {n : Int} {Q : Bool → Prop} {X : HE → Prop} (A : Pr a p) (hn : Bd 70 n) (h : Q true) : m__law_whole p a n Q X := by
  have P := A.vb
  have va := A.va
  have vn : Vb 70 (n, 1) := ⟨low_one n, hn, b1.up (by decide)⟩
  have z : p.1 = 0 ↔ a.1 = 0 := zero_iff A.pp A.ap va
  have back : m_Ratio___init__ n (1 : Int) (fun v5 => m__law_over v5 (.inl p) (fun v6 => m__law_floorJ n p (fun v7 => CMulW n a.2 ∧ m__law_parted v6 v7 (n * a.2) a.1 (fun v9 => Q v9) noX) noX) noX) noX := by
    refine rat_ok (by decide) (b1.sm (by decide)) ?_
    rw [rat_one]
    have w := hn.mw A.a2 (by decide) (by decide)
    refine over_ok oth_l vn P (by decide) (fun e => ?_) fun e => ?_
    · exact floorJ_ok P hn (by decide) (fun _ => ⟨w, part0_ok (z.mp e) h⟩) fun e2 => absurd e e2
    · refine floorJ_ok P hn (by decide) (fun e2 => absurd e2 e) fun _ => ⟨w, ?_⟩
      show m__law_parted (some (.inl (ratD (n * p.2) (1 * p.1)))) _ _ _ _ _
      rw [Int.one_mul]
      exact part_ok (n := 140) e (fun c => e (z.mpr c)) (hn.mul P.b2) (P.b1.up (by decide)) (hn.mul A.a2) (A.a1.up (by decide)) (by decide) (by grind) h
  unfold m__law_whole
  have w := A.a2.mw hn (by decide) (by decide)
  refine over_ok oth_r P vn (by decide) (fun e => ?_) fun e => ?_
  · refine floorI_ok P vn (by decide) (fun _ => ⟨w, part0_ok ?_ (ifD_f rfl back)⟩) fun e2 => absurd e e2
    have e : n = 0 := e
    rw [e, Int.mul_zero]
  · have e : n ≠ 0 := e
    refine floorI_ok P vn (by decide) (fun e2 => absurd e2 e) fun _ => ⟨w, ?_⟩
    exact part_ok (n := 140) (Int.mul_ne_zero (by have := A.pp; omega) e) (Int.mul_ne_zero (by have := A.ap; omega) e) ((P.b1.mul b1).up (by decide)) (P.b2.mul hn) (A.a1.up (by decide)) (A.a2.mul hn) (by decide) (by grind) (ifD_f rfl back)
end

/-! ## k07t -/
section
theorem at_nat {α : Type} {xs : List α} {j : Nat} {k : Int} {x : α} (e : k = j) (h : xs[j]? = some x) : atI xs k = some x := by
  subst e
  exact atI_nat h
theorem at_last {α : Type} {xs : List α} (h : 0 < xs.length) : atI xs (-1) = xs[xs.length - 1]? := by
  unfold atI ixN
  rw [if_neg (by decide), if_pos (by omega)]
  show xs[(-1 + (xs.length : Int)).toNat]? = _
  rw [show (-1 + (xs.length : Int)).toNat = xs.length - 1 by omega]
structure Sums (N : Int) (zs : List (Int × Int)) (i : Nat) (s : (Int × Int) × (Int × Int) × (Int × Int)) : Prop where
  f : Vb (1 + 71 * i) s.1
  fi : Is s.1 (sumP (zs.take i)).1 (sumP (zs.take i)).2
  b : Vb (1 + 71 * i) s.2.1
  bi : Is s.2.1 (sumP (zs.drop (zs.length - i))).1 (sumP (zs.drop (zs.length - i))).2
  t : Vb (71 + 71 * i) s.2.2
  ti : Is s.2.2 (N * (sumP (zs.take i)).1) (sumP (zs.take i)).2
theorem is_sum {p q : Int × Int} {u v : Int × Int} (P : Is p u.1 u.2) (Q : Is q v.1 v.2) : Is (addD p q) (pl u v).1 (pl u v).2 := is_add P Q
theorem vb_add {m k : Nat} {p q : Int × Int} (hp : Vb m p) (hq : Vb k q) : Vb (m + k + 1) (addD p q) := by
  have hd := ne_mul hp.pp hq.pp
  refine vb_rat hd ?_ ((hp.b2.mul hq.b2).up (by omega))
  have e := hq.b1.mul hp.b2
  rw [Nat.add_comm k m] at e
  exact (hp.b1.mul hq.b2).add e
theorem vb_zero : Vb 1 ((0 : Int), (1 : Int)) := ⟨low_one 0, by show (0 : Int).natAbs < 2; decide, b1⟩
theorem sums_step {N : Int} (hN : Bd 70 N) {zs : List (Int × Int)} (hz : ∀ p ∈ zs, Vb 70 p) {i : Nat} (hi : i < zs.length) (hl : zs.length ≤ 7) {s : (Int × Int) × (Int × Int) × (Int × Int)} (h : Sums N zs i s) {nx : (Int × Int) × (Int × Int) × (Int × Int) → Prop} (k : ∀ s', Sums N zs (i + 1) s' → nx s') :
    ∃ v21, atI zs (i : Int) = some v21 ∧ m_Ratio___add__ s.1 (.inl v21) (fun v22 => ∃ v24, atI zs ((((zs).length : Int) - (1 : Int)) - i) = some v24 ∧ m_Ratio___add__ v24 (.inl s.2.1) (fun v25 => ∃ v26, atI zs (i : Int) = some v26 ∧ m_Ratio___mul__ v26 (.inr N) (fun v27 => m_Ratio___add__ s.2.2 (.inl v27) (fun v28 => nx (v22, v25, v28)) noX) noX) noX) noX := by
  have e1 : zs[i]? = some zs[i] := List.getElem?_eq_getElem hi
  have hj : zs.length - 1 - i < zs.length := by omega
  have e2 : zs[zs.length - 1 - i]? = some zs[zs.length - 1 - i] := List.getElem?_eq_getElem hj
  have v1 := hz _ (List.getElem_mem hi)
  have v2 := hz _ (List.getElem_mem hj)
  have vn : Vb 70 (N, 1) := ⟨low_one N, hN, b1.up (by decide)⟩
  refine ⟨_, at_nat rfl e1, add_ok oth_l h.f v1 (by omega) fun f' => ⟨_, at_nat (by omega) e2, add_ok oth_l v2 h.b (by omega) fun b' => ⟨_, at_nat rfl e1, mul_ok oth_r v1 vn (by decide) fun m' => add_ok oth_l h.t m' (by omega) fun t' => k _ ?_⟩⟩⟩
  have et : zs.take (i + 1) = zs.take i ++ [zs[i]] := by rw [List.take_add_one, e1]; rfl
  have ed : zs.drop (zs.length - (i + 1)) = zs[zs.length - 1 - i] :: zs.drop (zs.length - i) := by
    rw [show zs.length - (i + 1) = zs.length - 1 - i by omega, List.drop_eq_getElem_cons hj, show zs.length - 1 - i + 1 = zs.length - i by omega]
  have st : sumP (zs.take (i + 1)) = pl (sumP (zs.take i)) zs[i] := by rw [et, sum_app, sum_one]
  have sd : sumP (zs.drop (zs.length - (i + 1))) = pl zs[zs.length - 1 - i] (sumP (zs.drop (zs.length - i))) := by rw [ed]; rfl
  have F : Is (addD s.1 zs[i]) (sumP (zs.take (i + 1))).1 (sumP (zs.take (i + 1))).2 := by
    rw [st]
    exact is_sum h.fi (is_self v1.lo)
  have vf : Vb (1 + 71 * (i + 1)) (addD s.1 zs[i]) := f'.up (by omega)
  have T : Is (addD s.2.2 (mulD zs[i] (N, 1))) (N * (sumP (zs.take (i + 1))).1) (sumP (zs.take (i + 1))).2 := by
    refine is_to (is_add h.ti (is_mul (is_self v1.lo) (is_int N))) F.dp ?_
    rw [st]
    show _ = N * ((sumP (zs.take i)).1 * zs[i].2 + zs[i].1 * (sumP (zs.take i)).2) * _
    show _ * ((sumP (zs.take i)).2 * zs[i].2) = _
    grind
  refine ⟨vf, F, b'.up (by omega), ?_, ?_, T⟩
  · show Is (addD zs[zs.length - 1 - i] s.2.1) _ _
    rw [sd]
    exact is_sum (is_self v2.lo) h.bi
  · have M := is_mul F (is_int N)
    have e := is_uniq T M (by grind)
    show Vb _ (addD s.2.2 (mulD zs[i] (N, 1)))
    rw [e]
    have vm : Vb (1 + 71 * (i + 1) + 70) (ratD ((addD s.1 zs[i]).1 * (N, (1 : Int)).1) ((addD s.1 zs[i]).2 * (N, (1 : Int)).2)) := vb_rat (ne_mul vf.pp (show (0 : Int) < 1 by decide)) (vf.b1.mul hN) ((vf.b2.mul b1).up (by omega))
    exact vm.up (by omega)
theorem law_pure : m_law (· = true) noX := by
  unfold m_law
  refine draw_ok (by decide) (by decide) fun n hn => ⟨⟨by omega, by omega⟩, ?_⟩
  refine mapD_inv (fun _ a => Bd 70 a.1 ∧ Bd 70 a.2 ∧ 0 < a.2) (fun x _ k hk => pair_ok fun a h1 h2 h3 => hk a ⟨bd_of (by omega), bd_of (by omega), h3⟩) fun ys hys => ?_
  have ly := Paired.len hys
  rw [intsF_len] at ly
  have gy : ∀ (j : Nat) (a : Int × Int), ys[j]? = some a → Bd 70 a.1 ∧ Bd 70 a.2 ∧ 0 < a.2 := fun j a ha => by
    obtain ⟨_, _, h⟩ := Paired.get' hys ha
    exact h
  rw [List.nil_append]
  refine number_ok fun N hN => ?_
  have hN : Bd 70 N := bd_of (by omega)
  refine mapD_ok (fun a => ratD a.1 a.2) (fun a ha k hk => ?_) ?_
  · obtain ⟨j, hj⟩ := List.getElem?_of_mem ha
    obtain ⟨_, h2, h3⟩ := gy j a hj
    exact rat_ok (by omega) (h2.sm (by decide)) hk
  rw [List.nil_append]
  have pr : ∀ (j : Nat) (a : Int × Int), ys[j]? = some a → (ys.map fun a => ratD a.1 a.2)[j]? = some (ratD a.1 a.2) ∧ Pr a (ratD a.1 a.2) := fun j a ha => by
    obtain ⟨h1, h2, h3⟩ := gy j a ha
    exact ⟨by rw [List.getElem?_map, ha]; rfl, pr_mk h1 h2 h3⟩
  have pv : ∀ p ∈ ys.map fun a => ratD a.1 a.2, Vb 70 p := fun p hp => by
    obtain ⟨a, ha, rfl⟩ := List.mem_map.mp hp
    obtain ⟨j, hj⟩ := List.getElem?_of_mem ha
    exact (pr j a hj).2.vb
  have lz : (ys.map fun a => ratD a.1 a.2).length = ys.length := List.length_map ..
  generalize (ys.map fun a => ratD a.1 a.2) = zs at pr pv lz ⊢
  have o1 : Sm (1 : Int) := b1.sm (by decide)
  refine rat_ok (by decide) o1 (rat_ok (by decide) o1 (rat_ok (by decide) o1 ?_))
  rw [rat_one]
  have hl : zs.length ≤ 7 := by omega
  refine forD_inv (fun pre s => Sums N zs pre.length s) ?_ (fun pre x post s nx e hI hnx => ?_) fun s hs => ?_
  · have z0 : Is ((0 : Int), (1 : Int)) 0 1 := is_int 0
    refine ⟨vb_zero, z0, vb_zero, ?_, vb_zero.up (by decide), ?_⟩
    · show Is _ (sumP (zs.drop (zs.length - 0))).1 (sumP (zs.drop (zs.length - 0))).2
      rw [Nat.sub_zero, List.drop_length]
      exact z0
    · show Is _ (N * 0) 1
      rw [Int.mul_zero]
      exact z0
  · obtain ⟨rfl, hx⟩ := intsF_sp e
    have hi : pre.length < zs.length := by omega
    refine sums_step hN pv hi hl hI fun s' hs' => hnx s' ?_
    rw [List.length_append]
    exact hs'
  · rw [intsF_len, Int.toNat_natCast] at hs
    have hf := hs.fi
    have hb := hs.bi
    have ht := hs.ti
    rw [List.take_length] at hf ht
    rw [Nat.sub_self, List.drop_zero] at hb
    have e1 := is_uniq hf hb rfl
    have vn : Vb 70 (N, 1) := ⟨low_one N, hN, b1.up (by decide)⟩
    refine eq_ok oth_l ?_
    rw [← e1, decide_eq_true rfl, decide_eq_true rfl, decide_eq_true rfl]
    refine ifD_f rfl (mul_ok oth_r hs.f vn (by omega) fun _ => eq_ok oth_l ?_)
    have e2 : s.2.2 = mulD s.1 (N, 1) := is_uniq ht (is_mul hf (is_int N)) (by grind)
    rw [← e2, decide_eq_true rfl]
    refine ifD_f rfl (forD_all (fun x hx nx hnx => ?_) rfl)
    obtain ⟨j, hj, rfl⟩ := mem_intsF0 hx
    intro o eo
    obtain ⟨i, hi, ey, ez⟩ : ∃ i : Nat, i < ys.length ∧ atI ys o = ys[i]? ∧ atI zs o = zs[i]? := by
      by_cases h0 : j = 0
      · subst h0
        have : o = -1 := by omega
        subst this
        refine ⟨ys.length - 1, by omega, at_last (by omega), ?_⟩
        rw [← lz]
        exact at_last (by omega)
      · have : o = ((j - 1 : Nat) : Int) := by omega
        subst this
        refine ⟨j - 1, by omega, ?_, ?_⟩
        · rw [List.getElem?_eq_getElem (show j - 1 < ys.length by omega)]
          exact atI_nat (List.getElem?_eq_getElem _)
        · rw [List.getElem?_eq_getElem (show j - 1 < zs.length by omega)]
          exact atI_nat (List.getElem?_eq_getElem _)
    have hj : j < ys.length := by omega
    have y1 : ys[j]? = some ys[j] := List.getElem?_eq_getElem hj
    have y2 : ys[i]? = some ys[i] := List.getElem?_eq_getElem hi
    obtain ⟨z1, P1⟩ := pr _ _ y1
    obtain ⟨z2, P2⟩ := pr _ _ y2
    exact ⟨_, atI_nat z1, _, ez.trans z2, _, atI_nat y1, _, ey.trans y2, two_ok P1 P2 (ifD_f rfl ⟨_, atI_nat z1, _, atI_nat y1, whole_ok P1 hN (ifD_f rfl hnx)⟩)⟩
end

/-! ## the end -/
theorem all_mk {P : Program} {w : World} {K : PySem.W.Frag} {h : Heap} {mg : Str → Option Value} {fa : Addr} (X : K.In h) (G : h.Ns mainGlobals mg) (hfa : mg "law" = some (.ref fa)) (top : (P.main.scope.names.lookup ("super" : Str)).isSome = false)
    {f__law_bag : Addr} {od__law_bag an__law_bag : Option Addr} {sl__law_bag : Array (Option Value)} {oc__law_bag kV__law_bag dc__law_bag pm__law_bag cd__law_bag ct__law_bag : Value}
    {f__law_draw : Addr} {od__law_draw an__law_draw : Option Addr} {sl__law_draw : Array (Option Value)} {oc__law_draw kV__law_draw dc__law_draw pm__law_draw cd__law_draw ct__law_draw : Value}
    {f_common_divisor : Addr} {od_common_divisor an_common_divisor : Option Addr} {sl_common_divisor : Array (Option Value)} {oc_common_divisor kV_common_divisor dc_common_divisor pm_common_divisor cd_common_divisor ct_common_divisor : Value}
    {f_terms : Addr} {od_terms an_terms : Option Addr} {sl_terms : Array (Option Value)} {oc_terms kV_terms dc_terms pm_terms cd_terms ct_terms : Value}
    {f__law_number : Addr} {od__law_number an__law_number : Option Addr} {sl__law_number : Array (Option Value)} {oc__law_number kV__law_number dc__law_number pm__law_number cd__law_number ct__law_number : Value}
    {f__law_divisor : Addr} {od__law_divisor an__law_divisor : Option Addr} {sl__law_divisor : Array (Option Value)} {oc__law_divisor kV__law_divisor dc__law_divisor pm__law_divisor cd__law_divisor ct__law_divisor : Value}
    {f__law_int : Addr} {od__law_int an__law_int : Option Addr} {sl__law_int : Array (Option Value)} {oc__law_int kV__law_int dc__law_int pm__law_int cd__law_int ct__law_int : Value}
    {f__law_ratio : Addr} {od__law_ratio an__law_ratio : Option Addr} {sl__law_ratio : Array (Option Value)} {oc__law_ratio kV__law_ratio dc__law_ratio pm__law_ratio cd__law_ratio ct__law_ratio : Value}
    {f__law_pair : Addr} {od__law_pair an__law_pair : Option Addr} {sl__law_pair : Array (Option Value)} {oc__law_pair kV__law_pair dc__law_pair pm__law_pair cd__law_pair ct__law_pair : Value}
    {f__law_over : Addr} {od__law_over an__law_over : Option Addr} {sl__law_over : Array (Option Value)} {oc__law_over kV__law_over dc__law_over pm__law_over cd__law_over ct__law_over : Value}
    {f__law_floor : Addr} {od__law_floor an__law_floor : Option Addr} {sl__law_floor : Array (Option Value)} {oc__law_floor kV__law_floor dc__law_floor pm__law_floor cd__law_floor ct__law_floor : Value}
    {f__law_parted : Addr} {od__law_parted an__law_parted : Option Addr} {sl__law_parted : Array (Option Value)} {oc__law_parted kV__law_parted dc__law_parted pm__law_parted cd__law_parted ct__law_parted : Value}
    {f__law_two : Addr} {od__law_two an__law_two : Option Addr} {sl__law_two : Array (Option Value)} {oc__law_two kV__law_two dc__law_two pm__law_two cd__law_two ct__law_two : Value}
    {f__law_whole : Addr} {od__law_whole an__law_whole : Option Addr} {sl__law_whole : Array (Option Value)} {oc__law_whole kV__law_whole dc__law_whole pm__law_whole cd__law_whole ct__law_whole : Value}
    {f_law : Addr} {od_law an_law : Option Addr} {sl_law : Array (Option Value)} {oc_law kV_law dc_law pm_law cd_law ct_law : Value}
    {C_BadNumber fI_BadNumber N_BadNumber cda_BadNumber cc_BadNumber : Addr} {nm_BadNumber q_BadNumber file_BadNumber : Str} {bs_BadNumber bm_BadNumber sub_BadNumber : List Value} {sn_BadNumber : List Str} {ab_BadNumber : Bool} {col_BadNumber : Option Bool} {dd_BadNumber od_BadNumber an_BadNumber cdd_BadNumber cld_BadNumber : Option Addr} {m0_BadNumber m1_BadNumber m2_BadNumber m3_BadNumber m5_BadNumber : Option Value} {oc_BadNumber kV_BadNumber dc_BadNumber pm_BadNumber ct_BadNumber ccl_BadNumber cl_BadNumber : Value} {sl_BadNumber ccs_BadNumber csl_BadNumber : Array (Option Value)} {vs_BadNumber : Array Value} {tf_BadNumber : Tok}
    {C_Ratio : Addr}
    {f_Ratio___init__ : Addr} {od_Ratio___init__ an_Ratio___init__ : Option Addr} {sl_Ratio___init__ : Array (Option Value)} {oc_Ratio___init__ kV_Ratio___init__ dc_Ratio___init__ pm_Ratio___init__ cd_Ratio___init__ ct_Ratio___init__ : Value}
    {dT_Ratio___init__ : Addr} {dd_Ratio___init__ : Option Addr} {dsl_Ratio___init__ : Array (Option Value)} {doc_Ratio___init__ : Value} {dn_Ratio___init__ : Nat} {dk0_Ratio___init__ : Tok}
    {f_Ratio___str__ : Addr} {od_Ratio___str__ an_Ratio___str__ : Option Addr} {sl_Ratio___str__ : Array (Option Value)} {oc_Ratio___str__ kV_Ratio___str__ dc_Ratio___str__ pm_Ratio___str__ cd_Ratio___str__ ct_Ratio___str__ : Value}
    {f_Ratio___add__ : Addr} {od_Ratio___add__ an_Ratio___add__ : Option Addr} {sl_Ratio___add__ : Array (Option Value)} {oc_Ratio___add__ kV_Ratio___add__ dc_Ratio___add__ pm_Ratio___add__ cd_Ratio___add__ ct_Ratio___add__ : Value}
    {f_Ratio___radd__ : Addr} {od_Ratio___radd__ an_Ratio___radd__ : Option Addr} {sl_Ratio___radd__ : Array (Option Value)} {oc_Ratio___radd__ kV_Ratio___radd__ dc_Ratio___radd__ pm_Ratio___radd__ cd_Ratio___radd__ ct_Ratio___radd__ : Value}
    {f_Ratio___sub__ : Addr} {od_Ratio___sub__ an_Ratio___sub__ : Option Addr} {sl_Ratio___sub__ : Array (Option Value)} {oc_Ratio___sub__ kV_Ratio___sub__ dc_Ratio___sub__ pm_Ratio___sub__ cd_Ratio___sub__ ct_Ratio___sub__ : Value}
    {f_Ratio___rsub__ : Addr} {od_Ratio___rsub__ an_Ratio___rsub__ : Option Addr} {sl_Ratio___rsub__ : Array (Option Value)} {oc_Ratio___rsub__ kV_Ratio___rsub__ dc_Ratio___rsub__ pm_Ratio___rsub__ cd_Ratio___rsub__ ct_Ratio___rsub__ : Value}
    {f_Ratio___mul__ : Addr} {od_Ratio___mul__ an_Ratio___mul__ : Option Addr} {sl_Ratio___mul__ : Array (Option Value)} {oc_Ratio___mul__ kV_Ratio___mul__ dc_Ratio___mul__ pm_Ratio___mul__ cd_Ratio___mul__ ct_Ratio___mul__ : Value}
    {f_Ratio___rmul__ : Addr} {od_Ratio___rmul__ an_Ratio___rmul__ : Option Addr} {sl_Ratio___rmul__ : Array (Option Value)} {oc_Ratio___rmul__ kV_Ratio___rmul__ dc_Ratio___rmul__ pm_Ratio___rmul__ cd_Ratio___rmul__ ct_Ratio___rmul__ : Value}
    {f_Ratio___neg__ : Addr} {od_Ratio___neg__ an_Ratio___neg__ : Option Addr} {sl_Ratio___neg__ : Array (Option Value)} {oc_Ratio___neg__ kV_Ratio___neg__ dc_Ratio___neg__ pm_Ratio___neg__ cd_Ratio___neg__ ct_Ratio___neg__ : Value}
    {f_Ratio___abs__ : Addr} {od_Ratio___abs__ an_Ratio___abs__ : Option Addr} {sl_Ratio___abs__ : Array (Option Value)} {oc_Ratio___abs__ kV_Ratio___abs__ dc_Ratio___abs__ pm_Ratio___abs__ cd_Ratio___abs__ ct_Ratio___abs__ : Value}
    {f_Ratio___bool__ : Addr} {od_Ratio___bool__ an_Ratio___bool__ : Option Addr} {sl_Ratio___bool__ : Array (Option Value)} {oc_Ratio___bool__ kV_Ratio___bool__ dc_Ratio___bool__ pm_Ratio___bool__ cd_Ratio___bool__ ct_Ratio___bool__ : Value}
    {f_Ratio___eq__ : Addr} {od_Ratio___eq__ an_Ratio___eq__ : Option Addr} {sl_Ratio___eq__ : Array (Option Value)} {oc_Ratio___eq__ kV_Ratio___eq__ dc_Ratio___eq__ pm_Ratio___eq__ cd_Ratio___eq__ ct_Ratio___eq__ : Value}
    {f_Ratio___lt__ : Addr} {od_Ratio___lt__ an_Ratio___lt__ : Option Addr} {sl_Ratio___lt__ : Array (Option Value)} {oc_Ratio___lt__ kV_Ratio___lt__ dc_Ratio___lt__ pm_Ratio___lt__ cd_Ratio___lt__ ct_Ratio___lt__ : Value}
    {f_Ratio___le__ : Addr} {od_Ratio___le__ an_Ratio___le__ : Option Addr} {sl_Ratio___le__ : Array (Option Value)} {oc_Ratio___le__ kV_Ratio___le__ dc_Ratio___le__ pm_Ratio___le__ cd_Ratio___le__ ct_Ratio___le__ : Value}
    {f_Ratio___gt__ : Addr} {od_Ratio___gt__ an_Ratio___gt__ : Option Addr} {sl_Ratio___gt__ : Array (Option Value)} {oc_Ratio___gt__ kV_Ratio___gt__ dc_Ratio___gt__ pm_Ratio___gt__ cd_Ratio___gt__ ct_Ratio___gt__ : Value}
    {f_Ratio___ge__ : Addr} {od_Ratio___ge__ an_Ratio___ge__ : Option Addr} {sl_Ratio___ge__ : Array (Option Value)} {oc_Ratio___ge__ kV_Ratio___ge__ dc_Ratio___ge__ pm_Ratio___ge__ cd_Ratio___ge__ ct_Ratio___ge__ : Value}
    {f_Ratio_over : Addr} {od_Ratio_over an_Ratio_over : Option Addr} {sl_Ratio_over : Array (Option Value)} {oc_Ratio_over kV_Ratio_over dc_Ratio_over pm_Ratio_over cd_Ratio_over ct_Ratio_over : Value}
    {f_Ratio___floordiv__ : Addr} {od_Ratio___floordiv__ an_Ratio___floordiv__ : Option Addr} {sl_Ratio___floordiv__ : Array (Option Value)} {oc_Ratio___floordiv__ kV_Ratio___floordiv__ dc_Ratio___floordiv__ pm_Ratio___floordiv__ cd_Ratio___floordiv__ ct_Ratio___floordiv__ : Value}
    {f_Ratio___rfloordiv__ : Addr} {od_Ratio___rfloordiv__ an_Ratio___rfloordiv__ : Option Addr} {sl_Ratio___rfloordiv__ : Array (Option Value)} {oc_Ratio___rfloordiv__ kV_Ratio___rfloordiv__ dc_Ratio___rfloordiv__ pm_Ratio___rfloordiv__ cd_Ratio___rfloordiv__ ct_Ratio___rfloordiv__ : Value}
    {fo_Ratio_floordiv ro_Ratio_floordiv : Option Value}
    {fo_Ratio_mul ro_Ratio_mul : Option Value}
    {fo_Ratio_sub ro_Ratio_sub : Option Value}
    {fo_Ratio_add ro_Ratio_add : Option Value}
    (z_len : PySem.W.nsIn K mainGlobals "len" = some none)
    (z_range : PySem.W.nsIn K mainGlobals "range" = some none)
    (z_abs : PySem.W.nsIn K mainGlobals "abs" = some none)
    (z_sum : PySem.W.nsIn K mainGlobals "sum" = some none)
    (z_sorted : PySem.W.nsIn K mainGlobals "sorted" = some none)
    (z_isinstance : PySem.W.nsIn K mainGlobals "isinstance" = some none)
    (z_zip : PySem.W.nsIn K mainGlobals "zip" = some none)
    (z_enumerate : PySem.W.nsIn K mainGlobals "enumerate" = some none)
    (z_reversed : PySem.W.nsIn K mainGlobals "reversed" = some none)
    (z_int : PySem.W.nsIn K mainGlobals "int" = some none)
    (z_str : PySem.W.nsIn K mainGlobals "str" = some none)
    (z_list : PySem.W.nsIn K mainGlobals "list" = some none)
    (z_tuple : PySem.W.nsIn K mainGlobals "tuple" = some none)
    (z_bool : PySem.W.nsIn K mainGlobals "bool" = some none)
    (z_all : PySem.W.nsIn K mainGlobals "all" = some none)
    (z_any : PySem.W.nsIn K mainGlobals "any" = some none)
    (z_ValueError : PySem.W.nsIn K mainGlobals "ValueError" = some none)
    (z_super : PySem.W.nsIn K mainGlobals "super" = some none)
    (a__law_bag : PySem.W.nsIn K mainGlobals "_law_bag" = some (some (.ref f__law_bag)))
    (l__law_bag : K.lookup f__law_bag = some ⟨oc__law_bag, od__law_bag, .func (PySem.W.fnOf "_law_bag" "_law_bag" (defArgs s__law_bag) (defBody s__law_bag) (defScope s__law_bag) .none kV__law_bag dc__law_bag pm__law_bag an__law_bag cd__law_bag ct__law_bag), sl__law_bag⟩)
    (c__law_bag : PySem.W.codeIn K cd__law_bag "_law_bag" = true)
    (k__law_bag : PySem.W.keepIn K (.ref f__law_bag) = true)
    (a__law_draw : PySem.W.nsIn K mainGlobals "_law_draw" = some (some (.ref f__law_draw)))
    (l__law_draw : K.lookup f__law_draw = some ⟨oc__law_draw, od__law_draw, .func (PySem.W.fnOf "_law_draw" "_law_draw" (defArgs s__law_draw) (defBody s__law_draw) (defScope s__law_draw) .none kV__law_draw dc__law_draw pm__law_draw an__law_draw cd__law_draw ct__law_draw), sl__law_draw⟩)
    (c__law_draw : PySem.W.codeIn K cd__law_draw "_law_draw" = true)
    (k__law_draw : PySem.W.keepIn K (.ref f__law_draw) = true)
    (a_common_divisor : PySem.W.nsIn K mainGlobals "common_divisor" = some (some (.ref f_common_divisor)))
    (l_common_divisor : K.lookup f_common_divisor = some ⟨oc_common_divisor, od_common_divisor, .func (PySem.W.fnOf "common_divisor" "common_divisor" (defArgs s_common_divisor) (defBody s_common_divisor) (defScope s_common_divisor) .none kV_common_divisor dc_common_divisor pm_common_divisor an_common_divisor cd_common_divisor ct_common_divisor), sl_common_divisor⟩)
    (c_common_divisor : PySem.W.codeIn K cd_common_divisor "common_divisor" = true)
    (k_common_divisor : PySem.W.keepIn K (.ref f_common_divisor) = true)
    (a_terms : PySem.W.nsIn K mainGlobals "terms" = some (some (.ref f_terms)))
    (l_terms : K.lookup f_terms = some ⟨oc_terms, od_terms, .func (PySem.W.fnOf "terms" "terms" (defArgs s_terms) (defBody s_terms) (defScope s_terms) .none kV_terms dc_terms pm_terms an_terms cd_terms ct_terms), sl_terms⟩)
    (c_terms : PySem.W.codeIn K cd_terms "terms" = true)
    (k_terms : PySem.W.keepIn K (.ref f_terms) = true)
    (a__law_number : PySem.W.nsIn K mainGlobals "_law_number" = some (some (.ref f__law_number)))
    (l__law_number : K.lookup f__law_number = some ⟨oc__law_number, od__law_number, .func (PySem.W.fnOf "_law_number" "_law_number" (defArgs s__law_number) (defBody s__law_number) (defScope s__law_number) .none kV__law_number dc__law_number pm__law_number an__law_number cd__law_number ct__law_number), sl__law_number⟩)
    (c__law_number : PySem.W.codeIn K cd__law_number "_law_number" = true)
    (k__law_number : PySem.W.keepIn K (.ref f__law_number) = true)
    (a__law_divisor : PySem.W.nsIn K mainGlobals "_law_divisor" = some (some (.ref f__law_divisor)))
    (l__law_divisor : K.lookup f__law_divisor = some ⟨oc__law_divisor, od__law_divisor, .func (PySem.W.fnOf "_law_divisor" "_law_divisor" (defArgs s__law_divisor) (defBody s__law_divisor) (defScope s__law_divisor) .none kV__law_divisor dc__law_divisor pm__law_divisor an__law_divisor cd__law_divisor ct__law_divisor), sl__law_divisor⟩)
    (c__law_divisor : PySem.W.codeIn K cd__law_divisor "_law_divisor" = true)
    (k__law_divisor : PySem.W.keepIn K (.ref f__law_divisor) = true)
    (a__law_int : PySem.W.nsIn K mainGlobals "_law_int" = some (some (.ref f__law_int)))
    (l__law_int : K.lookup f__law_int = some ⟨oc__law_int, od__law_int, .func (PySem.W.fnOf "_law_int" "_law_int" (defArgs s__law_int) (defBody s__law_int) (defScope s__law_int) .none kV__law_int dc__law_int pm__law_int an__law_int cd__law_int ct__law_int), sl__law_int⟩)
    (c__law_int : PySem.W.codeIn K cd__law_int "_law_int" = true)
    (k__law_int : PySem.W.keepIn K (.ref f__law_int) = true)
    (a__law_ratio : PySem.W.nsIn K mainGlobals "_law_ratio" = some (some (.ref f__law_ratio)))
    (l__law_ratio : K.lookup f__law_ratio = some ⟨oc__law_ratio, od__law_ratio, .func (PySem.W.fnOf "_law_ratio" "_law_ratio" (defArgs s__law_ratio) (defBody s__law_ratio) (defScope s__law_ratio) .none kV__law_ratio dc__law_ratio pm__law_ratio an__law_ratio cd__law_ratio ct__law_ratio), sl__law_ratio⟩)
    (c__law_ratio : PySem.W.codeIn K cd__law_ratio "_law_ratio" = true)
    (k__law_ratio : PySem.W.keepIn K (.ref f__law_ratio) = true)
    (a__law_pair : PySem.W.nsIn K mainGlobals "_law_pair" = some (some (.ref f__law_pair)))
    (l__law_pair : K.lookup f__law_pair = some ⟨oc__law_pair, od__law_pair, .func (PySem.W.fnOf "_law_pair" "_law_pair" (defArgs s__law_pair) (defBody s__law_pair) (defScope s__law_pair) .none kV__law_pair dc__law_pair pm__law_pair an__law_pair cd__law_pair ct__law_pair), sl__law_pair⟩)
    (c__law_pair : PySem.W.codeIn K cd__law_pair "_law_pair" = true)
    (k__law_pair : PySem.W.keepIn K (.ref f__law_pair) = true)
    (a__law_over : PySem.W.nsIn K mainGlobals "_law_over" = some (some (.ref f__law_over)))
    (l__law_over : K.lookup f__law_over = some ⟨oc__law_over, od__law_over, .func (PySem.W.fnOf "_law_over" "_law_over" (defArgs s__law_over) (defBody s__law_over) (defScope s__law_over) .none kV__law_over dc__law_over pm__law_over an__law_over cd__law_over ct__law_over), sl__law_over⟩)
    (c__law_over : PySem.W.codeIn K cd__law_over "_law_over" = true)
    (k__law_over : PySem.W.keepIn K (.ref f__law_over) = true)
    (a__law_floor : PySem.W.nsIn K mainGlobals "_law_floor" = some (some (.ref f__law_floor)))
    (l__law_floor : K.lookup f__law_floor = some ⟨oc__law_floor, od__law_floor, .func (PySem.W.fnOf "_law_floor" "_law_floor" (defArgs s__law_floor) (defBody s__law_floor) (defScope s__law_floor) .none kV__law_floor dc__law_floor pm__law_floor an__law_floor cd__law_floor ct__law_floor), sl__law_floor⟩)
    (c__law_floor : PySem.W.codeIn K cd__law_floor "_law_floor" = true)
    (k__law_floor : PySem.W.keepIn K (.ref f__law_floor) = true)
    (a__law_parted : PySem.W.nsIn K mainGlobals "_law_parted" = some (some (.ref f__law_parted)))
    (l__law_parted : K.lookup f__law_parted = some ⟨oc__law_parted, od__law_parted, .func (PySem.W.fnOf "_law_parted" "_law_parted" (defArgs s__law_parted) (defBody s__law_parted) (defScope s__law_parted) .none kV__law_parted dc__law_parted pm__law_parted an__law_parted cd__law_parted ct__law_parted), sl__law_parted⟩)
    (c__law_parted : PySem.W.codeIn K cd__law_parted "_law_parted" = true)
    (k__law_parted : PySem.W.keepIn K (.ref f__law_parted) = true)
    (a__law_two : PySem.W.nsIn K mainGlobals "_law_two" = some (some (.ref f__law_two)))
    (l__law_two : K.lookup f__law_two = some ⟨oc__law_two, od__law_two, .func (PySem.W.fnOf "_law_two" "_law_two" (defArgs s__law_two) (defBody s__law_two) (defScope s__law_two) .none kV__law_two dc__law_two pm__law_two an__law_two cd__law_two ct__law_two), sl__law_two⟩)
    (c__law_two : PySem.W.codeIn K cd__law_two "_law_two" = true)
    (k__law_two : PySem.W.keepIn K (.ref f__law_two) = true)
    (a__law_whole : PySem.W.nsIn K mainGlobals "_law_whole" = some (some (.ref f__law_whole)))
    (l__law_whole : K.lookup f__law_whole = some ⟨oc__law_whole, od__law_whole, .func (PySem.W.fnOf "_law_whole" "_law_whole" (defArgs s__law_whole) (defBody s__law_whole) (defScope s__law_whole) .none kV__law_whole dc__law_whole pm__law_whole an__law_whole cd__law_whole ct__law_whole), sl__law_whole⟩)
    (c__law_whole : PySem.W.codeIn K cd__law_whole "_law_whole" = true)
    (k__law_whole : PySem.W.keepIn K (.ref f__law_whole) = true)
    (a_law : PySem.W.nsIn K mainGlobals "law" = some (some (.ref f_law)))
    (l_law : K.lookup f_law = some ⟨oc_law, od_law, .func (PySem.W.fnOf "law" "law" (defArgs s_law) (defBody s_law) (defScope s_law) .none kV_law dc_law pm_law an_law cd_law ct_law), sl_law⟩)
    (c_law : PySem.W.codeIn K cd_law "law" = true)
    (k_law : PySem.W.keepIn K (.ref f_law) = true)
    (e_opq : PySem.W.nsIn K cStatics "thirdparty.any" = some none)
    (e_cg : PySem.W.specialIn K (.builtin "object.__class__") "__get__" = some (some (.builtin "getset_descriptor.__get__")))
    (e_ct : PySem.W.takesIn K (.builtin "object.__class__") = some true)
    (aC_BadNumber : PySem.W.nsIn K mainGlobals "BadNumber" = some (some (.ref C_BadNumber)))
    (xL_BadNumber : K.lookup C_BadNumber = some (excClassObj nm_BadNumber q_BadNumber C_BadNumber N_BadNumber bs_BadNumber bm_BadNumber true sn_BadNumber sub_BadNumber ab_BadNumber col_BadNumber dd_BadNumber m0_BadNumber m1_BadNumber m2_BadNumber m3_BadNumber m5_BadNumber "ValueError.__new__"))
    (bm_BadNumber : PySem.HandSPX.refsVE bm_BadNumber = true)
    (sa_BadNumber : PySem.W.findIn K (.ref C_BadNumber) "__setattr__" = some (some (.builtin "object.__setattr__")))
    (ga_BadNumber : PySem.W.findIn K (.ref C_BadNumber) "__getattribute__" = some (some (.builtin "BaseException.__getattribute__")))
    (gg_BadNumber : PySem.W.findIn K (.ref C_BadNumber) "__getattr__" = some none)
    (no_number_BadNumber : PySem.W.findIn K (.ref C_BadNumber) "number" = some none)
    (iC_BadNumber : PySem.W.findIn K (.ref C_BadNumber) "__init__" = some (some (.ref fI_BadNumber)))
    (tI_BadNumber : PySem.W.typeIn K (.ref fI_BadNumber) = some (.type "function"))
    (kC_BadNumber : PySem.W.keepIn K (.ref C_BadNumber) = true)
    (ex_BadNumber : PySem.W.subIn K (.ref C_BadNumber) (.type "BaseException") = some true)
    (ve_BadNumber : PySem.W.subIn K (.ref C_BadNumber) (.type "ValueError") = some true)
    (ty_BadNumber : PySem.W.typeIn K (.ref C_BadNumber) = some (.type "type"))
    (hd_BadNumber : PySem.W.hasDictIn K C_BadNumber = true)
    (sup_BadNumber : PySem.W.ks_superIn K C_BadNumber C_BadNumber "__init__" = some (some (.builtin "ValueError.__init__")))
    (mro_BadNumber : PySem.W.mroIn K C_BadNumber (.ref C_BadNumber) = some true)
    (su_BadNumber : PySem.W.subIn K (.ref C_BadNumber) (.ref C_BadNumber) = some true)
    (ca_BadNumber : PySem.W.findIn K (.ref C_BadNumber) "__class__" = some (some (.builtin "object.__class__")))
    (mo_BadNumber : PySem.W.mroIn K C_BadNumber (.type "object") = some true)
    (l_BadNumber : K.lookup fI_BadNumber = some ⟨oc_BadNumber, od_BadNumber, .func (PySem.W.ksFn "__init__" "BadNumber.__init__" (defArgs (inClass (topS 3) 0)) (defBody (inClass (topS 3) 0)) (defScope (inClass (topS 3) 0)) .none kV_BadNumber dc_BadNumber pm_BadNumber an_BadNumber (.ref cda_BadNumber) ct_BadNumber cc_BadNumber), sl_BadNumber⟩)
    (c_BadNumber : PySem.W.codeIn K (.ref cda_BadNumber) "BadNumber.__init__" = true)
    (lc_BadNumber : K.lookup cda_BadNumber = some ⟨ccl_BadNumber, cdd_BadNumber, .fields vs_BadNumber, ccs_BadNumber⟩)
    (v2_BadNumber : vs_BadNumber[2]? = some (.str file_BadNumber tf_BadNumber))
    (fl_BadNumber : ((P.main.file : Str) == file_BadNumber) = true)
    (cc_BadNumber : K.lookup cc_BadNumber = some ⟨cl_BadNumber, cld_BadNumber, .cell (some (.ref C_BadNumber)), csl_BadNumber⟩)
    (aC_Ratio : PySem.W.nsIn K mainGlobals "Ratio" = some (some (.ref C_Ratio)))
    (pg_Ratio : PySem.W.plainGet K C_Ratio Str.empty = true)
    (hd_Ratio : PySem.W.hasDictIn K C_Ratio = true)
    (po_Ratio : PySem.W.plainOver K C_Ratio = true)
    (sa_Ratio : PySem.W.findIn K (.ref C_Ratio) "__setattr__" = some (some (.builtin "object.__setattr__")))
    (no_top_Ratio : PySem.W.findIn K (.ref C_Ratio) "top" = some none)
    (no_bottom_Ratio : PySem.W.findIn K (.ref C_Ratio) "bottom" = some none)
    (ca_Ratio : PySem.W.findIn K (.ref C_Ratio) "__class__" = some (some (.builtin "object.__class__")))
    (mo_Ratio : PySem.W.mroIn K C_Ratio (.type "object") = some true)
    (mk_Ratio : PySem.W.makesIn K C_Ratio = true)
    (kC_Ratio : PySem.W.keepIn K (.ref C_Ratio) = true)
    (a_Ratio___init__ : PySem.W.findIn K (.ref C_Ratio) "__init__" = some (some (.ref f_Ratio___init__)))
    (i_Ratio___init__ : PySem.W.isFn K (.ref f_Ratio___init__) = true)
    (l_Ratio___init__ : K.lookup f_Ratio___init__ = some ⟨oc_Ratio___init__, od_Ratio___init__, .func (PySem.W.fnOf "__init__" "Ratio.__init__" (defArgs s_Ratio___init__) (defBody s_Ratio___init__) (defScope s_Ratio___init__) (.ref dT_Ratio___init__) kV_Ratio___init__ dc_Ratio___init__ pm_Ratio___init__ an_Ratio___init__ cd_Ratio___init__ ct_Ratio___init__), sl_Ratio___init__⟩)
    (c_Ratio___init__ : PySem.W.codeIn K cd_Ratio___init__ "Ratio.__init__" = true)
    (k_Ratio___init__ : PySem.W.keepIn K (.ref f_Ratio___init__) = true)
    (dl_Ratio___init__ : K.lookup dT_Ratio___init__ = some ⟨doc_Ratio___init__, dd_Ratio___init__, .seq #[.int 1 dk0_Ratio___init__] dn_Ratio___init__, dsl_Ratio___init__⟩)
    (a_Ratio___str__ : PySem.W.findIn K (.ref C_Ratio) "__str__" = some (some (.ref f_Ratio___str__)))
    (i_Ratio___str__ : PySem.W.isFn K (.ref f_Ratio___str__) = true)
    (l_Ratio___str__ : K.lookup f_Ratio___str__ = some ⟨oc_Ratio___str__, od_Ratio___str__, .func (PySem.W.fnOf "__str__" "Ratio.__str__" (defArgs s_Ratio___str__) (defBody s_Ratio___str__) (defScope s_Ratio___str__) .none kV_Ratio___str__ dc_Ratio___str__ pm_Ratio___str__ an_Ratio___str__ cd_Ratio___str__ ct_Ratio___str__), sl_Ratio___str__⟩)
    (c_Ratio___str__ : PySem.W.codeIn K cd_Ratio___str__ "Ratio.__str__" = true)
    (k_Ratio___str__ : PySem.W.keepIn K (.ref f_Ratio___str__) = true)
    (a_Ratio___add__ : PySem.W.findIn K (.ref C_Ratio) "__add__" = some (some (.ref f_Ratio___add__)))
    (i_Ratio___add__ : PySem.W.isFn K (.ref f_Ratio___add__) = true)
    (l_Ratio___add__ : K.lookup f_Ratio___add__ = some ⟨oc_Ratio___add__, od_Ratio___add__, .func (PySem.W.fnOf "__add__" "Ratio.__add__" (defArgs s_Ratio___add__) (defBody s_Ratio___add__) (defScope s_Ratio___add__) .none kV_Ratio___add__ dc_Ratio___add__ pm_Ratio___add__ an_Ratio___add__ cd_Ratio___add__ ct_Ratio___add__), sl_Ratio___add__⟩)
    (c_Ratio___add__ : PySem.W.codeIn K cd_Ratio___add__ "Ratio.__add__" = true)
    (k_Ratio___add__ : PySem.W.keepIn K (.ref f_Ratio___add__) = true)
    (a_Ratio___radd__ : PySem.W.findIn K (.ref C_Ratio) "__radd__" = some (some (.ref f_Ratio___radd__)))
    (i_Ratio___radd__ : PySem.W.isFn K (.ref f_Ratio___radd__) = true)
    (l_Ratio___radd__ : K.lookup f_Ratio___radd__ = some ⟨oc_Ratio___radd__, od_Ratio___radd__, .func (PySem.W.fnOf "__radd__" "Ratio.__radd__" (defArgs s_Ratio___radd__) (defBody s_Ratio___radd__) (defScope s_Ratio___radd__) .none kV_Ratio___radd__ dc_Ratio___radd__ pm_Ratio___radd__ an_Ratio___radd__ cd_Ratio___radd__ ct_Ratio___radd__), sl_Ratio___radd__⟩)
    (c_Ratio___radd__ : PySem.W.codeIn K cd_Ratio___radd__ "Ratio.__radd__" = true)
    (k_Ratio___radd__ : PySem.W.keepIn K (.ref f_Ratio___radd__) = true)
    (a_Ratio___sub__ : PySem.W.findIn K (.ref C_Ratio) "__sub__" = some (some (.ref f_Ratio___sub__)))
    (i_Ratio___sub__ : PySem.W.isFn K (.ref f_Ratio___sub__) = true)
    (l_Ratio___sub__ : K.lookup f_Ratio___sub__ = some ⟨oc_Ratio___sub__, od_Ratio___sub__, .func (PySem.W.fnOf "__sub__" "Ratio.__sub__" (defArgs s_Ratio___sub__) (defBody s_Ratio___sub__) (defScope s_Ratio___sub__) .none kV_Ratio___sub__ dc_Ratio___sub__ pm_Ratio___sub__ an_Ratio___sub__ cd_Ratio___sub__ ct_Ratio___sub__), sl_Ratio___sub__⟩)
    (c_Ratio___sub__ : PySem.W.codeIn K cd_Ratio___sub__ "Ratio.__sub__" = true)
    (k_Ratio___sub__ : PySem.W.keepIn K (.ref f_Ratio___sub__) = true)
    (a_Ratio___rsub__ : PySem.W.findIn K (.ref C_Ratio) "__rsub__" = some (some (.ref f_Ratio___rsub__)))
    (i_Ratio___rsub__ : PySem.W.isFn K (.ref f_Ratio___rsub__) = true)
    (l_Ratio___rsub__ : K.lookup f_Ratio___rsub__ = some ⟨oc_Ratio___rsub__, od_Ratio___rsub__, .func (PySem.W.fnOf "__rsub__" "Ratio.__rsub__" (defArgs s_Ratio___rsub__) (defBody s_Ratio___rsub__) (defScope s_Ratio___rsub__) .none kV_Ratio___rsub__ dc_Ratio___rsub__ pm_Ratio___rsub__ an_Ratio___rsub__ cd_Ratio___rsub__ ct_Ratio___rsub__), sl_Ratio___rsub__⟩)
    (c_Ratio___rsub__ : PySem.W.codeIn K cd_Ratio___rsub__ "Ratio.__rsub__" = true)
    (k_Ratio___rsub__ : PySem.W.keepIn K (.ref f_Ratio___rsub__) = true)
    (a_Ratio___mul__ : PySem.W.findIn K (.ref C_Ratio) "__mul__" = some (some (.ref f_Ratio___mul__)))
    (i_Ratio___mul__ : PySem.W.isFn K (.ref f_Ratio___mul__) = true)
    (l_Ratio___mul__ : K.lookup f_Ratio___mul__ = some ⟨oc_Ratio___mul__, od_Ratio___mul__, .func (PySem.W.fnOf "__mul__" "Ratio.__mul__" (defArgs s_Ratio___mul__) (defBody s_Ratio___mul__) (defScope s_Ratio___mul__) .none kV_Ratio___mul__ dc_Ratio___mul__ pm_Ratio___mul__ an_Ratio___mul__ cd_Ratio___mul__ ct_Ratio___mul__), sl_Ratio___mul__⟩)
    (c_Ratio___mul__ : PySem.W.codeIn K cd_Ratio___mul__ "Ratio.__mul__" = true)
    (k_Ratio___mul__ : PySem.W.keepIn K (.ref f_Ratio___mul__) = true)
    (a_Ratio___rmul__ : PySem.W.findIn K (.ref C_Ratio) "__rmul__" = some (some (.ref f_Ratio___rmul__)))
    (i_Ratio___rmul__ : PySem.W.isFn K (.ref f_Ratio___rmul__) = true)
    (l_Ratio___rmul__ : K.lookup f_Ratio___rmul__ = some ⟨oc_Ratio___rmul__, od_Ratio___rmul__, .func (PySem.W.fnOf "__rmul__" "Ratio.__rmul__" (defArgs s_Ratio___rmul__) (defBody s_Ratio___rmul__) (defScope s_Ratio___rmul__) .none kV_Ratio___rmul__ dc_Ratio___rmul__ pm_Ratio___rmul__ an_Ratio___rmul__ cd_Ratio___rmul__ ct_Ratio___rmul__), sl_Ratio___rmul__⟩)
    (c_Ratio___rmul__ : PySem.W.codeIn K cd_Ratio___rmul__ "Ratio.__rmul__" = true)
    (k_Ratio___rmul__ : PySem.W.keepIn K (.ref f_Ratio___rmul__) = true)
    (a_Ratio___neg__ : PySem.W.findIn K (.ref C_Ratio) "__neg__" = some (some (.ref f_Ratio___neg__)))
    (i_Ratio___neg__ : PySem.W.isFn K (.ref f_Ratio___neg__) = true)
    (l_Ratio___neg__ : K.lookup f_Ratio___neg__ = some ⟨oc_Ratio___neg__, od_Ratio___neg__, .func (PySem.W.fnOf "__neg__" "Ratio.__neg__" (defArgs s_Ratio___neg__) (defBody s_Ratio___neg__) (defScope s_Ratio___neg__) .none kV_Ratio___neg__ dc_Ratio___neg__ pm_Ratio___neg__ an_Ratio___neg__ cd_Ratio___neg__ ct_Ratio___neg__), sl_Ratio___neg__⟩)
    (c_Ratio___neg__ : PySem.W.codeIn K cd_Ratio___neg__ "Ratio.__neg__" = true)
    (k_Ratio___neg__ : PySem.W.keepIn K (.ref f_Ratio___neg__) = true)
    (a_Ratio___abs__ : PySem.W.findIn K (.ref C_Ratio) "__abs__" = some (some (.ref f_Ratio___abs__)))
    (i_Ratio___abs__ : PySem.W.isFn K (.ref f_Ratio___abs__) = true)
    (l_Ratio___abs__ : K.lookup f_Ratio___abs__ = some ⟨oc_Ratio___abs__, od_Ratio___abs__, .func (PySem.W.fnOf "__abs__" "Ratio.__abs__" (defArgs s_Ratio___abs__) (defBody s_Ratio___abs__) (defScope s_Ratio___abs__) .none kV_Ratio___abs__ dc_Ratio___abs__ pm_Ratio___abs__ an_Ratio___abs__ cd_Ratio___abs__ ct_Ratio___abs__), sl_Ratio___abs__⟩)
    (c_Ratio___abs__ : PySem.W.codeIn K cd_Ratio___abs__ "Ratio.__abs__" = true)
    (k_Ratio___abs__ : PySem.W.keepIn K (.ref f_Ratio___abs__) = true)
    (a_Ratio___bool__ : PySem.W.findIn K (.ref C_Ratio) "__bool__" = some (some (.ref f_Ratio___bool__)))
    (i_Ratio___bool__ : PySem.W.isFn K (.ref f_Ratio___bool__) = true)
    (l_Ratio___bool__ : K.lookup f_Ratio___bool__ = some ⟨oc_Ratio___bool__, od_Ratio___bool__, .func (PySem.W.fnOf "__bool__" "Ratio.__bool__" (defArgs s_Ratio___bool__) (defBody s_Ratio___bool__) (defScope s_Ratio___bool__) .none kV_Ratio___bool__ dc_Ratio___bool__ pm_Ratio___bool__ an_Ratio___bool__ cd_Ratio___bool__ ct_Ratio___bool__), sl_Ratio___bool__⟩)
    (c_Ratio___bool__ : PySem.W.codeIn K cd_Ratio___bool__ "Ratio.__bool__" = true)
    (k_Ratio___bool__ : PySem.W.keepIn K (.ref f_Ratio___bool__) = true)
    (a_Ratio___eq__ : PySem.W.findIn K (.ref C_Ratio) "__eq__" = some (some (.ref f_Ratio___eq__)))
    (i_Ratio___eq__ : PySem.W.isFn K (.ref f_Ratio___eq__) = true)
    (l_Ratio___eq__ : K.lookup f_Ratio___eq__ = some ⟨oc_Ratio___eq__, od_Ratio___eq__, .func (PySem.W.fnOf "__eq__" "Ratio.__eq__" (defArgs s_Ratio___eq__) (defBody s_Ratio___eq__) (defScope s_Ratio___eq__) .none kV_Ratio___eq__ dc_Ratio___eq__ pm_Ratio___eq__ an_Ratio___eq__ cd_Ratio___eq__ ct_Ratio___eq__), sl_Ratio___eq__⟩)
    (c_Ratio___eq__ : PySem.W.codeIn K cd_Ratio___eq__ "Ratio.__eq__" = true)
    (k_Ratio___eq__ : PySem.W.keepIn K (.ref f_Ratio___eq__) = true)
    (a_Ratio___lt__ : PySem.W.findIn K (.ref C_Ratio) "__lt__" = some (some (.ref f_Ratio___lt__)))
    (i_Ratio___lt__ : PySem.W.isFn K (.ref f_Ratio___lt__) = true)
    (l_Ratio___lt__ : K.lookup f_Ratio___lt__ = some ⟨oc_Ratio___lt__, od_Ratio___lt__, .func (PySem.W.fnOf "__lt__" "Ratio.__lt__" (defArgs s_Ratio___lt__) (defBody s_Ratio___lt__) (defScope s_Ratio___lt__) .none kV_Ratio___lt__ dc_Ratio___lt__ pm_Ratio___lt__ an_Ratio___lt__ cd_Ratio___lt__ ct_Ratio___lt__), sl_Ratio___lt__⟩)
    (c_Ratio___lt__ : PySem.W.codeIn K cd_Ratio___lt__ "Ratio.__lt__" = true)
    (k_Ratio___lt__ : PySem.W.keepIn K (.ref f_Ratio___lt__) = true)
    (a_Ratio___le__ : PySem.W.findIn K (.ref C_Ratio) "__le__" = some (some (.ref f_Ratio___le__)))
    (i_Ratio___le__ : PySem.W.isFn K (.ref f_Ratio___le__) = true)
    (l_Ratio___le__ : K.lookup f_Ratio___le__ = some ⟨oc_Ratio___le__, od_Ratio___le__, .func (PySem.W.fnOf "__le__" "Ratio.__le__" (defArgs s_Ratio___le__) (defBody s_Ratio___le__) (defScope s_Ratio___le__) .none kV_Ratio___le__ dc_Ratio___le__ pm_Ratio___le__ an_Ratio___le__ cd_Ratio___le__ ct_Ratio___le__), sl_Ratio___le__⟩)
    (c_Ratio___le__ : PySem.W.codeIn K cd_Ratio___le__ "Ratio.__le__" = true)
    (k_Ratio___le__ : PySem.W.keepIn K (.ref f_Ratio___le__) = true)
    (a_Ratio___gt__ : PySem.W.findIn K (.ref C_Ratio) "__gt__" = some (some (.ref f_Ratio___gt__)))
    (i_Ratio___gt__ : PySem.W.isFn K (.ref f_Ratio___gt__) = true)
    (l_Ratio___gt__ : K.lookup f_Ratio___gt__ = some ⟨oc_Ratio___gt__, od_Ratio___gt__, .func (PySem.W.fnOf "__gt__" "Ratio.__gt__" (defArgs s_Ratio___gt__) (defBody s_Ratio___gt__) (defScope s_Ratio___gt__) .none kV_Ratio___gt__ dc_Ratio___gt__ pm_Ratio___gt__ an_Ratio___gt__ cd_Ratio___gt__ ct_Ratio___gt__), sl_Ratio___gt__⟩)
    (c_Ratio___gt__ : PySem.W.codeIn K cd_Ratio___gt__ "Ratio.__gt__" = true)
    (k_Ratio___gt__ : PySem.W.keepIn K (.ref f_Ratio___gt__) = true)
    (a_Ratio___ge__ : PySem.W.findIn K (.ref C_Ratio) "__ge__" = some (some (.ref f_Ratio___ge__)))
    (i_Ratio___ge__ : PySem.W.isFn K (.ref f_Ratio___ge__) = true)
    (l_Ratio___ge__ : K.lookup f_Ratio___ge__ = some ⟨oc_Ratio___ge__, od_Ratio___ge__, .func (PySem.W.fnOf "__ge__" "Ratio.__ge__" (defArgs s_Ratio___ge__) (defBody s_Ratio___ge__) (defScope s_Ratio___ge__) .none kV_Ratio___ge__ dc_Ratio___ge__ pm_Ratio___ge__ an_Ratio___ge__ cd_Ratio___ge__ ct_Ratio___ge__), sl_Ratio___ge__⟩)
    (c_Ratio___ge__ : PySem.W.codeIn K cd_Ratio___ge__ "Ratio.__ge__" = true)
    (k_Ratio___ge__ : PySem.W.keepIn K (.ref f_Ratio___ge__) = true)
    (a_Ratio_over : PySem.W.findIn K (.ref C_Ratio) "over" = some (some (.ref f_Ratio_over)))
    (i_Ratio_over : PySem.W.isFn K (.ref f_Ratio_over) = true)
    (l_Ratio_over : K.lookup f_Ratio_over = some ⟨oc_Ratio_over, od_Ratio_over, .func (PySem.W.fnOf "over" "Ratio.over" (defArgs s_Ratio_over) (defBody s_Ratio_over) (defScope s_Ratio_over) .none kV_Ratio_over dc_Ratio_over pm_Ratio_over an_Ratio_over cd_Ratio_over ct_Ratio_over), sl_Ratio_over⟩)
    (c_Ratio_over : PySem.W.codeIn K cd_Ratio_over "Ratio.over" = true)
    (k_Ratio_over : PySem.W.keepIn K (.ref f_Ratio_over) = true)
    (a_Ratio___floordiv__ : PySem.W.findIn K (.ref C_Ratio) "__floordiv__" = some (some (.ref f_Ratio___floordiv__)))
    (i_Ratio___floordiv__ : PySem.W.isFn K (.ref f_Ratio___floordiv__) = true)
    (l_Ratio___floordiv__ : K.lookup f_Ratio___floordiv__ = some ⟨oc_Ratio___floordiv__, od_Ratio___floordiv__, .func (PySem.W.fnOf "__floordiv__" "Ratio.__floordiv__" (defArgs s_Ratio___floordiv__) (defBody s_Ratio___floordiv__) (defScope s_Ratio___floordiv__) .none kV_Ratio___floordiv__ dc_Ratio___floordiv__ pm_Ratio___floordiv__ an_Ratio___floordiv__ cd_Ratio___floordiv__ ct_Ratio___floordiv__), sl_Ratio___floordiv__⟩)
    (c_Ratio___floordiv__ : PySem.W.codeIn K cd_Ratio___floordiv__ "Ratio.__floordiv__" = true)
    (k_Ratio___floordiv__ : PySem.W.keepIn K (.ref f_Ratio___floordiv__) = true)
    (a_Ratio___rfloordiv__ : PySem.W.findIn K (.ref C_Ratio) "__rfloordiv__" = some (some (.ref f_Ratio___rfloordiv__)))
    (i_Ratio___rfloordiv__ : PySem.W.isFn K (.ref f_Ratio___rfloordiv__) = true)
    (l_Ratio___rfloordiv__ : K.lookup f_Ratio___rfloordiv__ = some ⟨oc_Ratio___rfloordiv__, od_Ratio___rfloordiv__, .func (PySem.W.fnOf "__rfloordiv__" "Ratio.__rfloordiv__" (defArgs s_Ratio___rfloordiv__) (defBody s_Ratio___rfloordiv__) (defScope s_Ratio___rfloordiv__) .none kV_Ratio___rfloordiv__ dc_Ratio___rfloordiv__ pm_Ratio___rfloordiv__ an_Ratio___rfloordiv__ cd_Ratio___rfloordiv__ ct_Ratio___rfloordiv__), sl_Ratio___rfloordiv__⟩)
    (c_Ratio___rfloordiv__ : PySem.W.codeIn K cd_Ratio___rfloordiv__ "Ratio.__rfloordiv__" = true)
    (k_Ratio___rfloordiv__ : PySem.W.keepIn K (.ref f_Ratio___rfloordiv__) = true)
    (k1_Ratio : PySem.W.kitOne K (.ref C_Ratio) (.ref C_Ratio) = some true)
    (k2_Ratio : PySem.W.kitOne K (.type "int") (.ref C_Ratio) = some false)
    (k3_Ratio : PySem.W.kitAny K (.ref C_Ratio) [.ref C_Ratio, .type "int"] = some true)
    (k4_Ratio : PySem.W.kitAny K (.type "int") [.ref C_Ratio, .type "int"] = some true)
    (si_Ratio : PySem.W.subIn K (.type "int") (.ref C_Ratio) = some false)
    (is_Ratio : PySem.W.subIn K (.ref C_Ratio) (.type "int") = some false)
    (sf_Ratio : PySem.W.selfFirst K C_Ratio = true)
    (fo_Ratio_floordiv_ : PySem.W.findIn K (.type "int") (PySem.dunder "floordiv") = some fo_Ratio_floordiv)
    (ro_Ratio_floordiv_ : PySem.W.findIn K (.type "int") (dunderR "floordiv") = some ro_Ratio_floordiv)
    (fo_Ratio_mul_ : PySem.W.findIn K (.type "int") (PySem.dunder "mul") = some fo_Ratio_mul)
    (ro_Ratio_mul_ : PySem.W.findIn K (.type "int") (dunderR "mul") = some ro_Ratio_mul)
    (fo_Ratio_sub_ : PySem.W.findIn K (.type "int") (PySem.dunder "sub") = some fo_Ratio_sub)
    (ro_Ratio_sub_ : PySem.W.findIn K (.type "int") (dunderR "sub") = some ro_Ratio_sub)
    (fo_Ratio_add_ : PySem.W.findIn K (.type "int") (PySem.dunder "add") = some fo_Ratio_add)
    (ro_Ratio_add_ : PySem.W.findIn K (.type "int") (dunderR "add") = some ro_Ratio_add)
    (ne_Ratio : PySem.W.findIn K (.ref C_Ratio) "__ne__" = some (some (.builtin "object.__ne__"))) :
    ∃ fd : FuncData, (∀ (s : Shared) (v : Value), BindsTo s fd ⟨[v], []⟩ [("_law_script", v)]) ∧ ∀ base : Heap, K.In base → base.Ns mainGlobals mg → FnOk P w K mg base CX0 7 fa fd ["_law_script"] (spLaw K) := by
  have e := hfa.symm.trans (PySem.W.mg_of X G a_law)
  cases e
  have B : Bl mg := ⟨PySem.W.mg_none_of X G z_len, PySem.W.mg_none_of X G z_range, PySem.W.mg_none_of X G z_abs, PySem.W.mg_none_of X G z_sum, PySem.W.mg_none_of X G z_sorted, PySem.W.mg_none_of X G z_isinstance, PySem.W.mg_none_of X G z_zip, PySem.W.mg_none_of X G z_enumerate, PySem.W.mg_none_of X G z_reversed, PySem.W.mg_none_of X G z_int, PySem.W.mg_none_of X G z_str, PySem.W.mg_none_of X G z_list, PySem.W.mg_none_of X G z_tuple, PySem.W.mg_none_of X G z_bool, PySem.W.mg_none_of X G z_all, PySem.W.mg_none_of X G z_any, PySem.W.mg_none_of X G z_ValueError⟩
  have F__law_bag : Src K mg "_law_bag" s__law_bag ["_law_script"] := src_mk X G a__law_bag l__law_bag c__law_bag k__law_bag (fun _ _ _ _ _ _ us hl => match us, hl with | [_], _ => rfl)
  have F__law_draw : Src K mg "_law_draw" s__law_draw ["_law_bag_here", "_law_many"] := src_mk X G a__law_draw l__law_draw c__law_draw k__law_draw (fun _ _ _ _ _ _ us hl => match us, hl with | [_, _], _ => rfl)
  have F_common_divisor : Src K mg "common_divisor" s_common_divisor ["first", "second"] := src_mk X G a_common_divisor l_common_divisor c_common_divisor k_common_divisor (fun _ _ _ _ _ _ us hl => match us, hl with | [_, _], _ => rfl)
  have F_terms : Src K mg "terms" s_terms ["value"] := src_mk X G a_terms l_terms c_terms k_terms (fun _ _ _ _ _ _ us hl => match us, hl with | [_], _ => rfl)
  have F__law_number : Src K mg "_law_number" s__law_number ["_law_bag_here"] := src_mk X G a__law_number l__law_number c__law_number k__law_number (fun _ _ _ _ _ _ us hl => match us, hl with | [_], _ => rfl)
  have F__law_divisor : Src K mg "_law_divisor" s__law_divisor ["_law_first", "_law_second"] := src_mk X G a__law_divisor l__law_divisor c__law_divisor k__law_divisor (fun _ _ _ _ _ _ us hl => match us, hl with | [_, _], _ => rfl)
  have F__law_int : Src K mg "_law_int" s__law_int ["_law_told"] := src_mk X G a__law_int l__law_int c__law_int k__law_int (fun _ _ _ _ _ _ us hl => match us, hl with | [_], _ => rfl)
  have F__law_ratio : Src K mg "_law_ratio" s__law_ratio ["_law_told", "_law_top", "_law_bottom"] := src_mk X G a__law_ratio l__law_ratio c__law_ratio k__law_ratio (fun _ _ _ _ _ _ us hl => match us, hl with | [_, _, _], _ => rfl)
  have F__law_pair : Src K mg "_law_pair" s__law_pair ["_law_bag_here"] := src_mk X G a__law_pair l__law_pair c__law_pair k__law_pair (fun _ _ _ _ _ _ us hl => match us, hl with | [_], _ => rfl)
  have F__law_over : Src K mg "_law_over" s__law_over ["_law_one", "_law_two_here"] := src_mk X G a__law_over l__law_over c__law_over k__law_over (fun _ _ _ _ _ _ us hl => match us, hl with | [_, _], _ => rfl)
  have F__law_floor : Src K mg "_law_floor" s__law_floor ["_law_one", "_law_two_here"] := src_mk X G a__law_floor l__law_floor c__law_floor k__law_floor (fun _ _ _ _ _ _ us hl => match us, hl with | [_, _], _ => rfl)
  have F__law_parted : Src K mg "_law_parted" s__law_parted ["_law_told", "_law_floor_here", "_law_top", "_law_bottom"] := src_mk X G a__law_parted l__law_parted c__law_parted k__law_parted (fun _ _ _ _ _ _ us hl => match us, hl with | [_, _, _, _], _ => rfl)
  have F__law_two : Src K mg "_law_two" s__law_two ["_law_one", "_law_two_here", "_law_a", "_law_b"] := src_mk X G a__law_two l__law_two c__law_two k__law_two (fun _ _ _ _ _ _ us hl => match us, hl with | [_, _, _, _], _ => rfl)
  have F__law_whole : Src K mg "_law_whole" s__law_whole ["_law_one", "_law_a", "_law_number_here"] := src_mk X G a__law_whole l__law_whole c__law_whole k__law_whole (fun _ _ _ _ _ _ us hl => match us, hl with | [_, _, _], _ => rfl)
  have nn_BadNumber : ∀ f ∈ (["number"] : List Str), PySem.W.findIn K (.ref C_BadNumber) f = some none := fun f hf => by
      simp only [List.mem_cons, List.not_mem_nil, or_false] at hf
      rcases hf with rfl
      · exact no_number_BadNumber
  have X_BadNumber : ErrTxt P K mg false "BadNumber" C_BadNumber fI_BadNumber ["number"] := err_mk (st := inClass (topS 3) 0) (fp := [("number", _, _, _, _)]) X G aC_BadNumber z_super xL_BadNumber bm_BadNumber sa_BadNumber ga_BadNumber gg_BadNumber nn_BadNumber
    iC_BadNumber tI_BadNumber kC_BadNumber ex_BadNumber ve_BadNumber ty_BadNumber hd_BadNumber sup_BadNumber mro_BadNumber su_BadNumber ca_BadNumber e_cg e_ct mo_BadNumber e_opq top l_BadNumber c_BadNumber lc_BadNumber v2_BadNumber fl_BadNumber cc_BadNumber rfl rfl rfl rfl (by decide +kernel) (by decide +kernel) (by decide +kernel) (by decide +kernel) (by decide +kernel) (by decide +kernel) (by decide +kernel) rfl rfl rfl
    (fun _ _ _ _ _ _ _ s x us hl => match us, hl with | [_], _ => .of_eq rfl) (fun x us hl => match us, hl with | [_], _ => ⟨by rfl, .cons (by rfl) (.nil)⟩) (.inl ⟨rfl, _, _, _, rfl⟩)
  have FI_Ratio : SrcI K C_Ratio "Ratio.__init__" s_Ratio___init__ ["self", "top", "bottom"] := srcID_mk (dvs := [(.int 1)]) (its := [.int 1 dk0_Ratio___init__]) mk_Ratio kC_Ratio a_Ratio___init__ i_Ratio___init__ l_Ratio___init__ c_Ratio___init__ k_Ratio___init__ dl_Ratio___init__ (.cons ⟨_, rfl⟩ (.nil)) (by simp) (fun _ _ _ _ _ _ _ us its h1 h2 => match us, its, h1, h2 with | [_, _, _], [_], _, _ => ⟨_, rfl, rfl⟩)
  have LI_Ratio : DflI K C_Ratio ["self", "top", "bottom"] [(.int 1)] := dflI_mk (its := [.int 1 dk0_Ratio___init__]) 2 a_Ratio___init__ l_Ratio___init__ c_Ratio___init__ k_Ratio___init__ dl_Ratio___init__ (.cons ⟨_, rfl⟩ (.nil)) (by simp) (by decide) (fun _ _ _ _ _ _ _ us its h1 h2 => match us, its, h1, h2 with | [_, _], [_], _, _ => ⟨_, rfl, rfl⟩)
  have FM_Ratio___str__ : SrcM K C_Ratio "__str__" "Ratio.__str__" s_Ratio___str__ ["self"] := srcM_mk a_Ratio___str__ i_Ratio___str__ l_Ratio___str__ c_Ratio___str__ k_Ratio___str__ (fun _ _ _ _ _ _ us hl => match us, hl with | [_], _ => rfl)
  have FM_Ratio___add__ : SrcM K C_Ratio "__add__" "Ratio.__add__" s_Ratio___add__ ["self", "other"] := srcM_mk a_Ratio___add__ i_Ratio___add__ l_Ratio___add__ c_Ratio___add__ k_Ratio___add__ (fun _ _ _ _ _ _ us hl => match us, hl with | [_, _], _ => rfl)
  have FM_Ratio___radd__ : SrcM K C_Ratio "__radd__" "Ratio.__radd__" s_Ratio___radd__ ["self", "other"] := srcM_mk a_Ratio___radd__ i_Ratio___radd__ l_Ratio___radd__ c_Ratio___radd__ k_Ratio___radd__ (fun _ _ _ _ _ _ us hl => match us, hl with | [_, _], _ => rfl)
  have FM_Ratio___sub__ : SrcM K C_Ratio "__sub__" "Ratio.__sub__" s_Ratio___sub__ ["self", "other"] := srcM_mk a_Ratio___sub__ i_Ratio___sub__ l_Ratio___sub__ c_Ratio___sub__ k_Ratio___sub__ (fun _ _ _ _ _ _ us hl => match us, hl with | [_, _], _ => rfl)
  have FM_Ratio___rsub__ : SrcM K C_Ratio "__rsub__" "Ratio.__rsub__" s_Ratio___rsub__ ["self", "other"] := srcM_mk a_Ratio___rsub__ i_Ratio___rsub__ l_Ratio___rsub__ c_Ratio___rsub__ k_Ratio___rsub__ (fun _ _ _ _ _ _ us hl => match us, hl with | [_, _], _ => rfl)
  have FM_Ratio___mul__ : SrcM K C_Ratio "__mul__" "Ratio.__mul__" s_Ratio___mul__ ["self", "other"] := srcM_mk a_Ratio___mul__ i_Ratio___mul__ l_Ratio___mul__ c_Ratio___mul__ k_Ratio___mul__ (fun _ _ _ _ _ _ us hl => match us, hl with | [_, _], _ => rfl)
  have FM_Ratio___rmul__ : SrcM K C_Ratio "__rmul__" "Ratio.__rmul__" s_Ratio___rmul__ ["self", "other"] := srcM_mk a_Ratio___rmul__ i_Ratio___rmul__ l_Ratio___rmul__ c_Ratio___rmul__ k_Ratio___rmul__ (fun _ _ _ _ _ _ us hl => match us, hl with | [_, _], _ => rfl)
  have FM_Ratio___neg__ : SrcM K C_Ratio "__neg__" "Ratio.__neg__" s_Ratio___neg__ ["self"] := srcM_mk a_Ratio___neg__ i_Ratio___neg__ l_Ratio___neg__ c_Ratio___neg__ k_Ratio___neg__ (fun _ _ _ _ _ _ us hl => match us, hl with | [_], _ => rfl)
  have FM_Ratio___abs__ : SrcM K C_Ratio "__abs__" "Ratio.__abs__" s_Ratio___abs__ ["self"] := srcM_mk a_Ratio___abs__ i_Ratio___abs__ l_Ratio___abs__ c_Ratio___abs__ k_Ratio___abs__ (fun _ _ _ _ _ _ us hl => match us, hl with | [_], _ => rfl)
  have FM_Ratio___bool__ : SrcM K C_Ratio "__bool__" "Ratio.__bool__" s_Ratio___bool__ ["self"] := srcM_mk a_Ratio___bool__ i_Ratio___bool__ l_Ratio___bool__ c_Ratio___bool__ k_Ratio___bool__ (fun _ _ _ _ _ _ us hl => match us, hl with | [_], _ => rfl)
  have FM_Ratio___eq__ : SrcM K C_Ratio "__eq__" "Ratio.__eq__" s_Ratio___eq__ ["self", "other"] := srcM_mk a_Ratio___eq__ i_Ratio___eq__ l_Ratio___eq__ c_Ratio___eq__ k_Ratio___eq__ (fun _ _ _ _ _ _ us hl => match us, hl with | [_, _], _ => rfl)
  have FM_Ratio___lt__ : SrcM K C_Ratio "__lt__" "Ratio.__lt__" s_Ratio___lt__ ["self", "other"] := srcM_mk a_Ratio___lt__ i_Ratio___lt__ l_Ratio___lt__ c_Ratio___lt__ k_Ratio___lt__ (fun _ _ _ _ _ _ us hl => match us, hl with | [_, _], _ => rfl)
  have FM_Ratio___le__ : SrcM K C_Ratio "__le__" "Ratio.__le__" s_Ratio___le__ ["self", "other"] := srcM_mk a_Ratio___le__ i_Ratio___le__ l_Ratio___le__ c_Ratio___le__ k_Ratio___le__ (fun _ _ _ _ _ _ us hl => match us, hl with | [_, _], _ => rfl)
  have FM_Ratio___gt__ : SrcM K C_Ratio "__gt__" "Ratio.__gt__" s_Ratio___gt__ ["self", "other"] := srcM_mk a_Ratio___gt__ i_Ratio___gt__ l_Ratio___gt__ c_Ratio___gt__ k_Ratio___gt__ (fun _ _ _ _ _ _ us hl => match us, hl with | [_, _], _ => rfl)
  have FM_Ratio___ge__ : SrcM K C_Ratio "__ge__" "Ratio.__ge__" s_Ratio___ge__ ["self", "other"] := srcM_mk a_Ratio___ge__ i_Ratio___ge__ l_Ratio___ge__ c_Ratio___ge__ k_Ratio___ge__ (fun _ _ _ _ _ _ us hl => match us, hl with | [_, _], _ => rfl)
  have FM_Ratio_over : SrcM K C_Ratio "over" "Ratio.over" s_Ratio_over ["self", "other"] := srcM_mk a_Ratio_over i_Ratio_over l_Ratio_over c_Ratio_over k_Ratio_over (fun _ _ _ _ _ _ us hl => match us, hl with | [_, _], _ => rfl)
  have FM_Ratio___floordiv__ : SrcM K C_Ratio "__floordiv__" "Ratio.__floordiv__" s_Ratio___floordiv__ ["self", "other"] := srcM_mk a_Ratio___floordiv__ i_Ratio___floordiv__ l_Ratio___floordiv__ c_Ratio___floordiv__ k_Ratio___floordiv__ (fun _ _ _ _ _ _ us hl => match us, hl with | [_, _], _ => rfl)
  have FM_Ratio___rfloordiv__ : SrcM K C_Ratio "__rfloordiv__" "Ratio.__rfloordiv__" s_Ratio___rfloordiv__ ["self", "other"] := srcM_mk a_Ratio___rfloordiv__ i_Ratio___rfloordiv__ l_Ratio___rfloordiv__ c_Ratio___rfloordiv__ k_Ratio___rfloordiv__ (fun _ _ _ _ _ _ us hl => match us, hl with | [_, _], _ => rfl)
  have m_Ratio := PySem.W.mg_of X G aC_Ratio
  have CL_Ratio : Cls K C_Ratio := ⟨pg_Ratio, hd_Ratio, po_Ratio, sa_Ratio⟩
  have no_Ratio : ∀ f ∈ (["top", "bottom"] : List Str), NoAttr K C_Ratio f := fun f hf => by
    simp only [List.mem_cons, List.not_mem_nil, or_false] at hf
    rcases hf with rfl | rfl
    · exact no_top_Ratio
    · exact no_bottom_Ratio
  have T_Ratio : ClsA K mg C_Ratio "Ratio" ["top", "bottom"] := ⟨⟨CL_Ratio, no_Ratio⟩, m_Ratio, ⟨CL_Ratio, ca_Ratio, e_cg, e_ct, mo_Ratio⟩, k1_Ratio, k2_Ratio, k3_Ratio, k4_Ratio, ⟨si_Ratio, is_Ratio⟩⟩
  have OC_Ratio_floordiv : OpC K C_Ratio "floordiv" := ⟨sf_Ratio, si_Ratio, is_Ratio, ⟨_, a_Ratio___rfloordiv__, .inr ⟨_, rfl⟩⟩, ⟨_, fo_Ratio_floordiv_⟩, ⟨_, ro_Ratio_floordiv_⟩⟩
  have OF_Ratio_floordiv : OpF K C_Ratio "floordiv" := ⟨_, a_Ratio___floordiv__⟩
  have OC_Ratio_mul : OpC K C_Ratio "mul" := ⟨sf_Ratio, si_Ratio, is_Ratio, ⟨_, a_Ratio___rmul__, .inr ⟨_, rfl⟩⟩, ⟨_, fo_Ratio_mul_⟩, ⟨_, ro_Ratio_mul_⟩⟩
  have OC_Ratio_sub : OpC K C_Ratio "sub" := ⟨sf_Ratio, si_Ratio, is_Ratio, ⟨_, a_Ratio___rsub__, .inr ⟨_, rfl⟩⟩, ⟨_, fo_Ratio_sub_⟩, ⟨_, ro_Ratio_sub_⟩⟩
  have OC_Ratio_add : OpC K C_Ratio "add" := ⟨sf_Ratio, si_Ratio, is_Ratio, ⟨_, a_Ratio___radd__, .inr ⟨_, rfl⟩⟩, ⟨_, fo_Ratio_add_⟩, ⟨_, ro_Ratio_add_⟩⟩
  have NC_Ratio : NeC K C_Ratio := ⟨ne_Ratio, mo_Ratio⟩
  refine ⟨PySem.W.fnOf "law" "law" (defArgs s_law) (defBody s_law) (defScope s_law) .none kV_law dc_law pm_law an_law cd_law ct_law, fun s v => .of_eq rfl, fun base hK hN => ?_⟩
  obtain ⟨cs, hcs⟩ : ∃ cs : EK → Addr, cs = fun k => match k with | .tooMany => C_BadNumber | .badWord => C_BadNumber | .double => C_BadNumber | .badNumber => C_BadNumber | .empty => C_BadNumber | .unknown => C_BadNumber | .inUse => C_BadNumber | .badState => C_BadNumber | .notReady => C_BadNumber | .notSound => C_BadNumber | .badPair => C_BadNumber | .badText => C_BadNumber | .noUndo => C_BadNumber := ⟨_, rfl⟩
  have X_BadNumber : ErrTxt P K mg false "BadNumber" (cs .badNumber) fI_BadNumber ["number"] := by rw [hcs]; exact X_BadNumber
  have D__law_bag := ok__law_bag (P := P) (w := w) (base := base) (k := 0) B F__law_bag
  have D__law_draw := ok__law_draw (P := P) (w := w) (base := base) (k := 0) B F__law_draw
  have D_common_divisor := ok_common_divisor (P := P) (w := w) (base := base) (cs := cs) (k := 0) B  F_common_divisor
  have DI_Ratio := ok_Ratio___init__ (P := P) (w := w) (base := base) (cs := cs) (k := 1) B T_Ratio (D_common_divisor.mono (by decide)) X_BadNumber FI_Ratio
  have DM_Ratio___str__ := ok_Ratio___str__ (P := P) (w := w) (base := base) (cs := cs) (k := 0) B T_Ratio FM_Ratio___str__
  have D_terms := ok_terms (P := P) (w := w) (base := base) (cs := cs) (k := 0) B T_Ratio F_terms
  have DM_Ratio___add__ := ok_Ratio___add__ (P := P) (w := w) (base := base) (cs := cs) (k := 2) B T_Ratio (D_terms.mono (by decide)) m_Ratio (DI_Ratio.mono (by decide)) FM_Ratio___add__
  have DM_Ratio___radd__ := ok_Ratio___radd__ (P := P) (w := w) (base := base) (cs := cs) (k := 2) B T_Ratio m_Ratio (DI_Ratio.mono (by decide)) FM_Ratio___radd__
  have DM_Ratio___sub__ := ok_Ratio___sub__ (P := P) (w := w) (base := base) (cs := cs) (k := 2) B T_Ratio (D_terms.mono (by decide)) m_Ratio (DI_Ratio.mono (by decide)) FM_Ratio___sub__
  have DM_Ratio___rsub__ := ok_Ratio___rsub__ (P := P) (w := w) (base := base) (cs := cs) (k := 2) B T_Ratio m_Ratio (DI_Ratio.mono (by decide)) FM_Ratio___rsub__
  have DM_Ratio___mul__ := ok_Ratio___mul__ (P := P) (w := w) (base := base) (cs := cs) (k := 2) B T_Ratio (D_terms.mono (by decide)) m_Ratio (DI_Ratio.mono (by decide)) FM_Ratio___mul__
  have DM_Ratio___rmul__ := ok_Ratio___rmul__ (P := P) (w := w) (base := base) (cs := cs) (k := 2) B T_Ratio m_Ratio (DI_Ratio.mono (by decide)) FM_Ratio___rmul__
  have DM_Ratio___neg__ := ok_Ratio___neg__ (P := P) (w := w) (base := base) (cs := cs) (k := 2) B T_Ratio m_Ratio (DI_Ratio.mono (by decide)) FM_Ratio___neg__
  have DM_Ratio___abs__ := ok_Ratio___abs__ (P := P) (w := w) (base := base) (cs := cs) (k := 2) B T_Ratio m_Ratio (DI_Ratio.mono (by decide)) FM_Ratio___abs__
  have DM_Ratio___bool__ := ok_Ratio___bool__ (P := P) (w := w) (base := base) (cs := cs) (k := 0) B T_Ratio FM_Ratio___bool__
  have DM_Ratio___eq__ := ok_Ratio___eq__ (P := P) (w := w) (base := base) (cs := cs) (k := 1) B T_Ratio (D_terms.mono (by decide)) FM_Ratio___eq__
  have DM_Ratio___lt__ := ok_Ratio___lt__ (P := P) (w := w) (base := base) (cs := cs) (k := 1) B T_Ratio (D_terms.mono (by decide)) FM_Ratio___lt__
  have DM_Ratio___le__ := ok_Ratio___le__ (P := P) (w := w) (base := base) (cs := cs) (k := 1) B T_Ratio (D_terms.mono (by decide)) FM_Ratio___le__
  have DM_Ratio___gt__ := ok_Ratio___gt__ (P := P) (w := w) (base := base) (cs := cs) (k := 1) B T_Ratio (D_terms.mono (by decide)) FM_Ratio___gt__
  have DM_Ratio___ge__ := ok_Ratio___ge__ (P := P) (w := w) (base := base) (cs := cs) (k := 1) B T_Ratio (D_terms.mono (by decide)) FM_Ratio___ge__
  have DM_Ratio_over := ok_Ratio_over (P := P) (w := w) (base := base) (cs := cs) (k := 2) B T_Ratio (D_terms.mono (by decide)) m_Ratio (DI_Ratio.mono (by decide)) FM_Ratio_over
  have DM_Ratio___floordiv__ := ok_Ratio___floordiv__ (P := P) (w := w) (base := base) (cs := cs) (k := 1) B T_Ratio (D_terms.mono (by decide)) X_BadNumber FM_Ratio___floordiv__
  have DM_Ratio___rfloordiv__ := ok_Ratio___rfloordiv__ (P := P) (w := w) (base := base) (cs := cs) (k := 0) B T_Ratio X_BadNumber FM_Ratio___rfloordiv__
  have D__law_number := ok__law_number (P := P) (w := w) (base := base) (cs := cs) (k := 1) B (D__law_draw.mono (by decide)) F__law_number
  have D__law_divisor := ok__law_divisor (P := P) (w := w) (base := base) (cs := cs) (k := 0) B  F__law_divisor
  have D__law_int := ok__law_int (P := P) (w := w) (base := base) (cs := cs) (k := 0) B  F__law_int
  have D__law_ratio := ok__law_ratio (P := P) (w := w) (base := base) (cs := cs) (k := 1) B T_Ratio (D__law_int.mono (by decide)) (D__law_divisor.mono (by decide)) F__law_ratio
  have D__law_pair := ok__law_pair (P := P) (w := w) (base := base) (cs := cs) (k := 2) B (D__law_number.mono (by decide)) F__law_pair
  have D__law_over := ok__law_over (P := P) (w := w) (base := base) (cs := cs) (k := 4) B T_Ratio (DM_Ratio_over.mono (by decide)) X_BadNumber F__law_over
  have D__law_floorR := ok__law_floorR (P := P) (w := w) (base := base) (cs := cs) (k := 2) B (DM_Ratio___floordiv__.mono (by decide)) OC_Ratio_floordiv X_BadNumber F__law_floor
  have D__law_floorI := ok__law_floorI (P := P) (w := w) (base := base) (cs := cs) (k := 2) B (DM_Ratio___floordiv__.mono (by decide)) OC_Ratio_floordiv X_BadNumber F__law_floor
  have D__law_floorJ := ok__law_floorJ (P := P) (w := w) (base := base) (cs := cs) (k := 1) B (DM_Ratio___rfloordiv__.mono (by decide)) OC_Ratio_floordiv OF_Ratio_floordiv X_BadNumber F__law_floor
  have D__law_parted := ok__law_parted (P := P) (w := w) (base := base) (cs := cs) (k := 2) B (D__law_ratio.mono (by decide)) (D__law_int.mono (by decide)) F__law_parted
  have D__law_two := ok__law_two (P := P) (w := w) (base := base) (cs := cs) (k := 4) B T_Ratio (D__law_over.mono (by decide)) (D__law_parted.mono (by decide)) (D__law_floorR.mono (by decide)) (DM_Ratio___mul__.mono (by decide)) (DM_Ratio___lt__.mono (by decide)) (DM_Ratio___sub__.mono (by decide)) (DM_Ratio___neg__.mono (by decide)) (DM_Ratio___eq__.mono (by decide)) (DM_Ratio___add__.mono (by decide)) OC_Ratio_mul OC_Ratio_sub OC_Ratio_add NC_Ratio (DM_Ratio___eq__.mono (by decide)) F__law_two
  have D__law_whole := ok__law_whole (P := P) (w := w) (base := base) (cs := cs) (k := 4) B (D__law_parted.mono (by decide)) (D__law_over.mono (by decide)) (D__law_floorI.mono (by decide)) (D__law_floorJ.mono (by decide)) LI_Ratio m_Ratio (DI_Ratio.mono (by decide)) F__law_whole
  exact ok_law (P := P) (w := w) (base := base) (cs := cs) (k := 5) B T_Ratio (D__law_draw.mono (by decide)) (D__law_pair.mono (by decide)) (D__law_number.mono (by decide)) (D__law_two.mono (by decide)) (D__law_whole.mono (by decide)) (DM_Ratio___add__.mono (by decide)) (DM_Ratio___mul__.mono (by decide)) LI_Ratio OC_Ratio_add OC_Ratio_mul NC_Ratio m_Ratio (DI_Ratio.mono (by decide)) (DM_Ratio___eq__.mono (by decide)) (D__law_bag.mono (by decide)) (fun_mk l_law c_law k_law) law_pure
theorem walk {l : PySem.W.OpenLaw} {q : Program} {loose : List Str} {XP : (Str → Option Value) → Heap → Prop} {YP : World → Heap → Prop} {d : DefRec} {K : Params → PySem.W.Frag} (hn : l.most = some 63) (hdf : d.params.defaults = [])
    (hY : ∀ (w : World) (h : Heap), YP w h → (K w.params).In h)
    (F : ∀ (w : World) (mg : Str → Option Value) (fa : Addr) (h : Heap), (K w.params).In h → h.Ns mainGlobals mg → mg d.name = some (.ref fa) →
      ∃ fd : FuncData, (∀ (s : Shared) (u : Value), BindsTo s fd ⟨[u], []⟩ [("_law_script", u)]) ∧ ∀ base : Heap, (K w.params).In base → base.Ns mainGlobals mg → FnOk l.prog w (K w.params) mg base CX0 7 fa fd ["_law_script"] (spLaw (K w.params))) :
    PySem.W.WalkO q loose XP YP l.row.toRowW d [] (fun f vs => PySem.call f vs) :=
  L2.walk_of (n := 63) (k := 7) (x := "_law_script") (CX := fun _ => CX0) (sp := fun w => spLaw (K w.params)) hn (by decide) hdf ⟨rfl, by decide, by decide⟩ hY F (fun _ _ a ns hl _ hS => ⟨a, ns, rfl, hS, hl, fun _ => rfl⟩) fun _ _ _ _ _ z => z
end Held

open PySem PySem.W PyProof.Rows in
set_option maxRecDepth 100000 in
set_option maxHeartbeats 0 in
theorem PySem.Challenge.cw_heldsteps_k07_whole_ratio_quotients_holds : PySem.Challenge.rw_heldsteps_k07_whole_ratio_quotients.Holds := by
  w_on; o_law; k_head; (case hw => w_witness2)
  k_fill
  refine Held.walk (l := PySem.Challenge.rw_heldsteps_k07_whole_ratio_quotients) rfl rfl (fun w h Y => PySem.W.kIn_of Y) ?F
  case F =>
    intro w mg fa h KX G hmg
    refine' Held.all_mk KX G hmg (by decide +kernel) ?z_len ?z_range ?z_abs ?z_sum ?z_sorted ?z_isinstance ?z_zip ?z_enumerate ?z_reversed ?z_int ?z_str ?z_list ?z_tuple ?z_bool ?z_all ?z_any ?z_ValueError ?z_super ?a__law_bag ?l__law_bag ?c__law_bag ?k__law_bag ?a__law_draw ?l__law_draw ?c__law_draw ?k__law_draw ?a_common_divisor ?l_common_divisor ?c_common_divisor ?k_common_divisor ?a_terms ?l_terms ?c_terms ?k_terms ?a__law_number ?l__law_number ?c__law_number ?k__law_number ?a__law_divisor ?l__law_divisor ?c__law_divisor ?k__law_divisor ?a__law_int ?l__law_int ?c__law_int ?k__law_int ?a__law_ratio ?l__law_ratio ?c__law_ratio ?k__law_ratio ?a__law_pair ?l__law_pair ?c__law_pair ?k__law_pair ?a__law_over ?l__law_over ?c__law_over ?k__law_over ?a__law_floor ?l__law_floor ?c__law_floor ?k__law_floor ?a__law_parted ?l__law_parted ?c__law_parted ?k__law_parted ?a__law_two ?l__law_two ?c__law_two ?k__law_two ?a__law_whole ?l__law_whole ?c__law_whole ?k__law_whole ?a_law ?l_law ?c_law ?k_law ?e_opq ?e_cg ?e_ct ?aC_BadNumber ?xL_BadNumber ?bm_BadNumber ?sa_BadNumber ?ga_BadNumber ?gg_BadNumber ?no_number_BadNumber ?iC_BadNumber ?tI_BadNumber ?kC_BadNumber ?ex_BadNumber ?ve_BadNumber ?ty_BadNumber ?hd_BadNumber ?sup_BadNumber ?mro_BadNumber ?su_BadNumber ?ca_BadNumber ?mo_BadNumber ?l_BadNumber ?c_BadNumber ?lc_BadNumber ?v2_BadNumber ?fl_BadNumber ?cc_BadNumber ?aC_Ratio ?pg_Ratio ?hd_Ratio ?po_Ratio ?sa_Ratio ?no_top_Ratio ?no_bottom_Ratio ?ca_Ratio ?mo_Ratio ?mk_Ratio ?kC_Ratio ?a_Ratio___init__ ?i_Ratio___init__ ?l_Ratio___init__ ?c_Ratio___init__ ?k_Ratio___init__ ?dl_Ratio___init__ ?a_Ratio___str__ ?i_Ratio___str__ ?l_Ratio___str__ ?c_Ratio___str__ ?k_Ratio___str__ ?a_Ratio___add__ ?i_Ratio___add__ ?l_Ratio___add__ ?c_Ratio___add__ ?k_Ratio___add__ ?a_Ratio___radd__ ?i_Ratio___radd__ ?l_Ratio___radd__ ?c_Ratio___radd__ ?k_Ratio___radd__ ?a_Ratio___sub__ ?i_Ratio___sub__ ?l_Ratio___sub__ ?c_Ratio___sub__ ?k_Ratio___sub__ ?a_Ratio___rsub__ ?i_Ratio___rsub__ ?l_Ratio___rsub__ ?c_Ratio___rsub__ ?k_Ratio___rsub__ ?a_Ratio___mul__ ?i_Ratio___mul__ ?l_Ratio___mul__ ?c_Ratio___mul__ ?k_Ratio___mul__ ?a_Ratio___rmul__ ?i_Ratio___rmul__ ?l_Ratio___rmul__ ?c_Ratio___rmul__ ?k_Ratio___rmul__ ?a_Ratio___neg__ ?i_Ratio___neg__ ?l_Ratio___neg__ ?c_Ratio___neg__ ?k_Ratio___neg__ ?a_Ratio___abs__ ?i_Ratio___abs__ ?l_Ratio___abs__ ?c_Ratio___abs__ ?k_Ratio___abs__ ?a_Ratio___bool__ ?i_Ratio___bool__ ?l_Ratio___bool__ ?c_Ratio___bool__ ?k_Ratio___bool__ ?a_Ratio___eq__ ?i_Ratio___eq__ ?l_Ratio___eq__ ?c_Ratio___eq__ ?k_Ratio___eq__ ?a_Ratio___lt__ ?i_Ratio___lt__ ?l_Ratio___lt__ ?c_Ratio___lt__ ?k_Ratio___lt__ ?a_Ratio___le__ ?i_Ratio___le__ ?l_Ratio___le__ ?c_Ratio___le__ ?k_Ratio___le__ ?a_Ratio___gt__ ?i_Ratio___gt__ ?l_Ratio___gt__ ?c_Ratio___gt__ ?k_Ratio___gt__ ?a_Ratio___ge__ ?i_Ratio___ge__ ?l_Ratio___ge__ ?c_Ratio___ge__ ?k_Ratio___ge__ ?a_Ratio_over ?i_Ratio_over ?l_Ratio_over ?c_Ratio_over ?k_Ratio_over ?a_Ratio___floordiv__ ?i_Ratio___floordiv__ ?l_Ratio___floordiv__ ?c_Ratio___floordiv__ ?k_Ratio___floordiv__ ?a_Ratio___rfloordiv__ ?i_Ratio___rfloordiv__ ?l_Ratio___rfloordiv__ ?c_Ratio___rfloordiv__ ?k_Ratio___rfloordiv__ ?k1_Ratio ?k2_Ratio ?k3_Ratio ?k4_Ratio ?si_Ratio ?is_Ratio ?sf_Ratio ?fo_Ratio_floordiv_ ?ro_Ratio_floordiv_ ?fo_Ratio_mul_ ?ro_Ratio_mul_ ?fo_Ratio_sub_ ?ro_Ratio_sub_ ?fo_Ratio_add_ ?ro_Ratio_add_ ?ne_Ratio
    (case z_len => k_is)
    (case z_range => k_is)
    (case z_abs => k_is)
    (case z_sum => k_is)
    (case z_sorted => k_is)
    (case z_isinstance => k_is)
    (case z_zip => k_is)
    (case z_enumerate => k_is)
    (case z_reversed => k_is)
    (case z_int => k_is)
    (case z_str => k_is)
    (case z_list => k_is)
    (case z_tuple => k_is)
    (case z_bool => k_is)
    (case z_all => k_is)
    (case z_any => k_is)
    (case z_ValueError => k_is)
    (case z_super => k_is)
    (case a__law_bag => k_is)
    (case l__law_bag => k_is)
    (case c__law_bag => k_is)
    (case k__law_bag => k_is)
    (case a__law_draw => k_is)
    (case l__law_draw => k_is)
    (case c__law_draw => k_is)
    (case k__law_draw => k_is)
    (case a_common_divisor => k_is)
    (case l_common_divisor => k_is)
    (case c_common_divisor => k_is)
    (case k_common_divisor => k_is)
    (case a_terms => k_is)
    (case l_terms => k_is)
    (case c_terms => k_is)
    (case k_terms => k_is)
    (case a__law_number => k_is)
    (case l__law_number => k_is)
    (case c__law_number => k_is)
    (case k__law_number => k_is)
    (case a__law_divisor => k_is)
    (case l__law_divisor => k_is)
    (case c__law_divisor => k_is)
    (case k__law_divisor => k_is)
    (case a__law_int => k_is)
    (case l__law_int => k_is)
    (case c__law_int => k_is)
    (case k__law_int => k_is)
    (case a__law_ratio => k_is)
    (case l__law_ratio => k_is)
    (case c__law_ratio => k_is)
    (case k__law_ratio => k_is)
    (case a__law_pair => k_is)
    (case l__law_pair => k_is)
    (case c__law_pair => k_is)
    (case k__law_pair => k_is)
    (case a__law_over => k_is)
    (case l__law_over => k_is)
    (case c__law_over => k_is)
    (case k__law_over => k_is)
    (case a__law_floor => k_is)
    (case l__law_floor => k_is)
    (case c__law_floor => k_is)
    (case k__law_floor => k_is)
    (case a__law_parted => k_is)
    (case l__law_parted => k_is)
    (case c__law_parted => k_is)
    (case k__law_parted => k_is)
    (case a__law_two => k_is)
    (case l__law_two => k_is)
    (case c__law_two => k_is)
    (case k__law_two => k_is)
    (case a__law_whole => k_is)
    (case l__law_whole => k_is)
    (case c__law_whole => k_is)
    (case k__law_whole => k_is)
    (case a_law => k_is)
    (case l_law => k_is)
    (case c_law => k_is)
    (case k_law => k_is)
    (case e_opq => k_is)
    (case e_cg => k_is)
    (case e_ct => k_is)
    (case aC_BadNumber => k_is)
    (case xL_BadNumber => k_is)
    (case bm_BadNumber => rfl)
    (case sa_BadNumber => k_is)
    (case ga_BadNumber => k_is)
    (case gg_BadNumber => k_is)
    (case no_number_BadNumber => k_is)
    (case iC_BadNumber => k_is)
    (case tI_BadNumber => k_is)
    (case kC_BadNumber => k_is)
    (case ex_BadNumber => k_is)
    (case ve_BadNumber => k_is)
    (case ty_BadNumber => k_is)
    (case hd_BadNumber => k_is)
    (case sup_BadNumber => ks_is)
    (case mro_BadNumber => k_is)
    (case su_BadNumber => first | rfl | k_is)
    (case ca_BadNumber => k_is)
    (case mo_BadNumber => k_is)
    (case l_BadNumber => k_is)
    (case c_BadNumber => k_is)
    (case lc_BadNumber => k_is)
    (case v2_BadNumber => rfl)
    (case fl_BadNumber => first | rfl | decide +kernel)
    (case cc_BadNumber => k_is)
    (case aC_Ratio => k_is)
    (case pg_Ratio => k_is)
    (case hd_Ratio => k_is)
    (case po_Ratio => k_is)
    (case sa_Ratio => k_is)
    (case no_top_Ratio => k_is)
    (case no_bottom_Ratio => k_is)
    (case ca_Ratio => k_is)
    (case mo_Ratio => k_is)
    (case mk_Ratio => k_is)
    (case kC_Ratio => k_is)
    (case a_Ratio___init__ => k_is)
    (case i_Ratio___init__ => k_is)
    (case l_Ratio___init__ => k_is)
    (case c_Ratio___init__ => k_is)
    (case k_Ratio___init__ => k_is)
    (case dl_Ratio___init__ => k_is)
    (case a_Ratio___str__ => k_is)
    (case i_Ratio___str__ => k_is)
    (case l_Ratio___str__ => k_is)
    (case c_Ratio___str__ => k_is)
    (case k_Ratio___str__ => k_is)
    (case a_Ratio___add__ => k_is)
    (case i_Ratio___add__ => k_is)
    (case l_Ratio___add__ => k_is)
    (case c_Ratio___add__ => k_is)
    (case k_Ratio___add__ => k_is)
    (case a_Ratio___radd__ => k_is)
    (case i_Ratio___radd__ => k_is)
    (case l_Ratio___radd__ => k_is)
    (case c_Ratio___radd__ => k_is)
    (case k_Ratio___radd__ => k_is)
    (case a_Ratio___sub__ => k_is)
    (case i_Ratio___sub__ => k_is)
    (case l_Ratio___sub__ => k_is)
    (case c_Ratio___sub__ => k_is)
    (case k_Ratio___sub__ => k_is)
    (case a_Ratio___rsub__ => k_is)
    (case i_Ratio___rsub__ => k_is)
    (case l_Ratio___rsub__ => k_is)
    (case c_Ratio___rsub__ => k_is)
    (case k_Ratio___rsub__ => k_is)
    (case a_Ratio___mul__ => k_is)
    (case i_Ratio___mul__ => k_is)
    (case l_Ratio___mul__ => k_is)
    (case c_Ratio___mul__ => k_is)
    (case k_Ratio___mul__ => k_is)
    (case a_Ratio___rmul__ => k_is)
    (case i_Ratio___rmul__ => k_is)
    (case l_Ratio___rmul__ => k_is)
    (case c_Ratio___rmul__ => k_is)
    (case k_Ratio___rmul__ => k_is)
    (case a_Ratio___neg__ => k_is)
    (case i_Ratio___neg__ => k_is)
    (case l_Ratio___neg__ => k_is)
    (case c_Ratio___neg__ => k_is)
    (case k_Ratio___neg__ => k_is)
    (case a_Ratio___abs__ => k_is)
    (case i_Ratio___abs__ => k_is)
    (case l_Ratio___abs__ => k_is)
    (case c_Ratio___abs__ => k_is)
    (case k_Ratio___abs__ => k_is)
    (case a_Ratio___bool__ => k_is)
    (case i_Ratio___bool__ => k_is)
    (case l_Ratio___bool__ => k_is)
    (case c_Ratio___bool__ => k_is)
    (case k_Ratio___bool__ => k_is)
    (case a_Ratio___eq__ => k_is)
    (case i_Ratio___eq__ => k_is)
    (case l_Ratio___eq__ => k_is)
    (case c_Ratio___eq__ => k_is)
    (case k_Ratio___eq__ => k_is)
    (case a_Ratio___lt__ => k_is)
    (case i_Ratio___lt__ => k_is)
    (case l_Ratio___lt__ => k_is)
    (case c_Ratio___lt__ => k_is)
    (case k_Ratio___lt__ => k_is)
    (case a_Ratio___le__ => k_is)
    (case i_Ratio___le__ => k_is)
    (case l_Ratio___le__ => k_is)
    (case c_Ratio___le__ => k_is)
    (case k_Ratio___le__ => k_is)
    (case a_Ratio___gt__ => k_is)
    (case i_Ratio___gt__ => k_is)
    (case l_Ratio___gt__ => k_is)
    (case c_Ratio___gt__ => k_is)
    (case k_Ratio___gt__ => k_is)
    (case a_Ratio___ge__ => k_is)
    (case i_Ratio___ge__ => k_is)
    (case l_Ratio___ge__ => k_is)
    (case c_Ratio___ge__ => k_is)
    (case k_Ratio___ge__ => k_is)
    (case a_Ratio_over => k_is)
    (case i_Ratio_over => k_is)
    (case l_Ratio_over => k_is)
    (case c_Ratio_over => k_is)
    (case k_Ratio_over => k_is)
    (case a_Ratio___floordiv__ => k_is)
    (case i_Ratio___floordiv__ => k_is)
    (case l_Ratio___floordiv__ => k_is)
    (case c_Ratio___floordiv__ => k_is)
    (case k_Ratio___floordiv__ => k_is)
    (case a_Ratio___rfloordiv__ => k_is)
    (case i_Ratio___rfloordiv__ => k_is)
    (case l_Ratio___rfloordiv__ => k_is)
    (case c_Ratio___rfloordiv__ => k_is)
    (case k_Ratio___rfloordiv__ => k_is)
    (case k1_Ratio => kit_is)
    (case k2_Ratio => kit_is)
    (case k3_Ratio => kit_is)
    (case k4_Ratio => kit_is)
    (case si_Ratio => k_is)
    (case is_Ratio => k_is)
    (case sf_Ratio => k_is)
    (case fo_Ratio_floordiv_ => k_is)
    (case ro_Ratio_floordiv_ => k_is)
    (case fo_Ratio_mul_ => k_is)
    (case ro_Ratio_mul_ => k_is)
    (case fo_Ratio_sub_ => k_is)
    (case ro_Ratio_sub_ => k_is)
    (case fo_Ratio_add_ => k_is)
    (case ro_Ratio_add_ => k_is)
    (case ne_Ratio => k_is)
#print axioms PySem.Challenge.cw_heldsteps_k07_whole_ratio_quotients_holds