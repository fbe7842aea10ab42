import PyProof.Rows.All
import Wide.All
import OpenK.AllK
import Wide.FinOn
import PyProof.EqAt
import PyProof.EqKinds
import PyProof.TupleCall
import KE.KExcSuper
import KE.KExcIs
import HandS.ForMost
import HandS.ForExc
import HandS.ExcInit
import HandS.ExcField
import HandS.ExcIs
import HandS.TryMany
import HandS.Walk
import HandS.Wide
import HandS.EndBits
import HandS.Flow
import HandS.Codes
import HandS.IsInst
import HandS.More
import HandS.Conv
import HandS.DictTup
import KE.KDictWalk
import HandS.Style
import HandS.Text
import HandS.Steps
import HandS.CallLocal
import HandS.TupLe
import HandS.TupAny
import HandS.Zip
import HandS.FStr
import HandS.Star
import HandS.DictComp
import PyProof.EqLayable
import HandS.Iter
import HandS.Strs
import PyProof.Rows.StrMul
import HandS.CallSlots
import HandS.Defaults
import HandS.Deep
import KE.KOpsOwn
import KE.KFmtOwn
import HandS.TupLen
import HandS.WordsDict
import HandS.MakeKwOnly
import HandS.ClsMeth
import HandS.HotCalls
import HandS.SetFor
import PyProof.P3Eq
import PySem.Challenge.RW_heldsteps_k12_solve_refusals
set_option Elab.async false
set_option linter.all false
set_option maxRecDepth 100000
set_option maxHeartbeats 4000000
namespace PySem
namespace HErr
open PySem.W PySem.Calls PyProof.Rows PySem.HandSPX
abbrev FP := Str × Pos × Pos × Pos × Pos
def stF (q : FP) : Stmt := .Assign [.Attribute (.Name "self" q.2.1) q.1 q.2.2.1] (.Name q.1 q.2.2.2.1) q.2.2.2.2
def stS (msg : Expr) (p1 p2 p3 p4 p5 : Pos) : Stmt := .Expr (.Call (.Attribute (.Call (.Name "super" p1) [] [] p2) "__init__" p3) [msg] [] p4) p5
section
variable {prog : Program} {w : World} {A : Around} {E : Value → Shared → Prop} {s : Shared} {K : Frag} {C : Addr}
/-- what is known of the class for its stores -/
structure ClsK (K : Frag) (C : Addr) (fs : List Str) : Prop where
  cls : ∃ nm q N bs bm sn sub ab col dd k0 k1 k2 k3 k5, K.lookup C = some (excClassObj nm q C N bs bm true sn sub ab col dd k0 k1 k2 k3 k5 "ValueError.__new__") ∧ refsVE bm = true
  sa : findIn K (.ref C) "__setattr__" = some (some (.builtin "object.__setattr__"))
  noN : ∀ f ∈ fs, findIn K (.ref C) f = some none
theorem ClsK.data {fs : List Str} (T : ClsK K C fs) : ∃ cd, clsIn K C = some cd ∧ refsVE cd.mro = true ∧ cd.hasDict = true := by
  obtain ⟨nm, q, N, bs, bm, sn, sub, ab, col, dd, k0, k1, k2, k3, k5, hC, hbm⟩ := T.cls
  exact ⟨{ name := nm, bases := bs, mro := .ref C :: bm, ns := N, qualname := q, hasDict := true, slotNames := sn, subclasses := sub, abstract := ab, collection := col, hasDel := false }, by unfold clsIn; rw [hC] <;> rfl, hbm, rfl⟩
theorem ld {M : Model} {env : Env} {m : Str → Option Value} {x : Str} {pos : Pos} {v : Value} {Q : Value → Shared → Prop} (hn : s.heap.Ns env.locals m) (hv : m x = some v) (h : Q v s)
    (hk : env.scope.kind = .function) (hl : env.kindOf x = some .local) (hd : (x == ("__debug__" : Str)) = false) :
    wpAny M A (eval (.Name x pos) env) Q E s := wpAny_Name (wpAny_loadName_local hk hl hn hv h) hd
theorem swaps_attr (env : Env) (q : FP) : swapsWith (.Name q.1 q.2.2.2.1) (some (.Attribute (.Name "self" q.2.1) q.1 q.2.2.1)) q.2.2.2.2.line env = pure false := rfl
/-- the stores behind the first -/
theorem stores_old {names : List Str} (T : ClsK K C names) {env : Env} (hk : env.scope.kind = .function) (hself : env.kindOf "self" = some .local) {m : Str → Option Value} {x dx t0 : Addr} (hmx : m "self" = some (.ref x)) :
    ∀ (fs : List FP) (us : List Value) (vs : List L2.V) (hv : L2.Vals vs us) (hfn : ∀ q ∈ fs, q.1 ∈ names ∧ env.kindOf q.1 = some .local ∧ (q.1 == ("__debug__" : Str)) = false) (hm : Paired (fun (q : FP) u => m q.1 = some u) fs us) (fV : List (Str × L2.V)) (mA : Str → Option Value) (s : Shared) (Q : Flow → Shared → Prop),
      K.In s.heap → s.heap.Ns env.locals m → env.locals ≠ dx → K.lookup dx = none →
      s.heap.get? x = some { cls := .ref C, dict := some dx, data := .fields #[.ref t0, .none, .none, .none, .bool false, .none] } → s.heap.Ns1 dx mA → (∀ f, L2.RelO (fV.lookup f) (mA f)) → fV.length + fs.length ≤ 900 →
      (∀ h' tk mB, (∀ b o, b ≠ dx → s.heap.get? b = some o → h'.get? b = some o) → h'.Ns1 dx mB → (∀ f, L2.RelO ((((fs.map (·.1)).zip vs).reverse ++ fV).lookup f) (mB f)) → Q .next { s with heap := h', toks := tk }) →
      wpAny (model prog w) A (execs (fs.map stF) env) Q E s
  | [], us, vs, hv, hfn, hm, fV, mA, s, Q, X, hn, hL, hKd, hx, hns, hr, hl, hq => by
    refine wpAny_execs_nil ?_
    have := hq s.heap s.toks mA (fun _ _ _ e => e) hns (by simpa using hr)
    exact this
  | q :: fs, us, vs, hv, hfn, hm, fV, mA, s, Q, X, hn, hL, hKd, hx, hns, hr, hl, hq => by
    cases hm with
    | cons hu hm' =>
      rename_i u us'
      cases hv with
      | cons ru hv' =>
        rename_i v vs'
        obtain ⟨hmem, hloc, hdb⟩ := hfn q (List.mem_cons_self ..)
        obtain ⟨cd, hcd, hmro, hhd⟩ := T.data
        have hw := L2.within_of hr
        obtain ⟨hp, g, d, tk, os⟩ := s
        obtain ⟨oD, _, _, hoD, _, _⟩ := hns.count hw
        show wpAny _ _ (execs (stF q :: fs.map stF) env) _ _ _
        refine wpAny_execs_cons (plainObj_wpAny_Assign_Attribute ?_ (swaps_attr env q))
        refine ld hn hu (ld hn hmx ?_ hk hself (by decide)) hk hloc hdb
        refine set_plain X (ox := { cls := .ref C, dict := some dx, data := .fields #[.ref t0, .none, .none, .none, .bool false, .none] }) (od := some oD) ⟨hx, rfl, rfl, hoD⟩ T.sa ?_
        refine PySem.OEX.osa_old X hx hns hw (by rw [List.length_map]; omega) hcd hmro hhd (T.noN _ hmem) (fun h' tk' k hn' => ?_)
        have hxd : x ≠ dx := fun z => by
          obtain ⟨o, es, ep, e1, e2, _⟩ := hns
          rw [← z, hx] at e1
          cases e1
          cases e2
        refine stores_old T hk hself hmx fs us' vs' hv' (fun q' hq' => hfn q' (List.mem_cons_of_mem _ hq')) hm' ((q.1, v) :: fV) _ ⟨h', g, d, tk', os⟩ Q
          (fun a o e => k a o (fun z => by rw [z, hKd] at e; cases e) (X a o e)) ?_ hL hKd (k _ _ hxd hx) hn' (L2.relO_put ru hr) (by simp only [List.length_cons] at hl ⊢; omega) (fun h2 tk2 mB k2 hn2 r2 => ?_)
        · obtain ⟨o, es, ep, e1, e2⟩ := hn
          exact ⟨o, es, ep, k _ _ hL e1, e2⟩
        · refine hq h2 tk2 mB (fun b o hb e => k2 b o hb (k b o hb e)) hn2 fun f => ?_
          have := r2 f
          simpa using this
/-- all stores: from an exception without a dict -/
theorem stores_new {names : List Str} (T : ClsK K C names) {env : Env} (hk : env.scope.kind = .function) (hself : env.kindOf "self" = some .local) {m : Str → Option Value} {x t0 : Addr} (hmx : m "self" = some (.ref x))
    (q : FP) (fs : List FP) (us : List Value) (vs : List L2.V) (hv : L2.Vals vs us) (hfn : ∀ q' ∈ q :: fs, q'.1 ∈ names ∧ env.kindOf q'.1 = some .local ∧ (q'.1 == ("__debug__" : Str)) = false) (hm : Paired (fun (q : FP) u => m q.1 = some u) (q :: fs) us) (s : Shared) (Q : Flow → Shared → Prop)
    (X : K.In s.heap) (hn : s.heap.Ns env.locals m) (hLx : env.locals ≠ x) (hKx : K.lookup x = none)
    (hx : s.heap.get? x = some { cls := .ref C, data := .fields #[.ref t0, .none, .none, .none, .bool false, .none] }) (hl : fs.length ≤ 800)
    (hq : ∀ h' tk dx mB, (∀ b o, b ≠ x → s.heap.get? b = some o → h'.get? b = some o) → s.heap.objs.size ≤ dx → dx ≠ x → h'.get? x = some { cls := .ref C, dict := some dx, data := .fields #[.ref t0, .none, .none, .none, .bool false, .none] } →
      h'.Ns1 dx mB → (∀ f, L2.RelO (((((q :: fs).map (·.1)).zip vs).reverse).lookup f) (mB f)) → Q .next { s with heap := h', toks := tk }) :
    wpAny (model prog w) A (execs ((q :: fs).map stF) env) Q E s := by
  cases hm with
  | cons hu hm' =>
    rename_i u us'
    cases hv with
    | cons ru hv' =>
      rename_i v vs'
      obtain ⟨hmem, hloc, hdb⟩ := hfn q (List.mem_cons_self ..)
      obtain ⟨cd, hcd, hmro, hhd⟩ := T.data
      obtain ⟨hp, g, d, tk, os⟩ := s
      show wpAny _ _ (execs (stF q :: fs.map stF) env) _ _ _
      refine wpAny_execs_cons (plainObj_wpAny_Assign_Attribute ?_ (swaps_attr env q))
      refine ld hn hu (ld hn hmx ?_ hk hself (by decide)) hk hloc hdb
      refine set_plain X (ox := { cls := .ref C, dict := none, data := .fields #[.ref t0, .none, .none, .none, .bool false, .none] }) (od := none) ⟨hx, rfl, rfl, trivial⟩ T.sa ?_
      refine exc_osa X hx hcd hmro hhd (T.noN _ hmem) (fun h' tk' dx k dn dne hx' hn' => ?_)
      have hbig : ∀ {b : Addr} {o : Obj}, hp.get? b = some o → b ≠ dx := fun {b o} e => Nat.ne_of_lt (Nat.lt_of_lt_of_le (Heap.lt_size e) dn)
      have hKd : K.lookup dx = none := by
        cases e : K.lookup dx with
        | none => rfl
        | some o => exact absurd rfl (hbig (X _ _ e))
      have hLd : env.locals ≠ dx := by
        obtain ⟨o, es, ep, e1, e2⟩ := hn
        exact hbig e1
      refine stores_old T hk hself hmx fs us' vs' hv' (fun q' hq' => hfn q' (List.mem_cons_of_mem _ hq')) hm' [(q.1, v)] _ ⟨h', g, d, tk', os⟩ Q
        (fun a o e => k a o (fun z => by rw [z, hKx] at e; cases e) (X a o e)) ?_ hLd hKd hx' hn' (L2.relO_put (fs := []) ru fun _ => True.intro) (by simp only [List.length_cons, List.length_nil] at hl ⊢; omega) (fun h2 tk2 mB k2 hn2 r2 => ?_)
      · obtain ⟨o, es, ep, e1, e2⟩ := hn
        exact ⟨o, es, ep, k _ _ hLx e1, e2⟩
      · refine hq h2 tk2 dx mB (fun b o hb e => k2 b o (hbig e) (k b o hb e)) dn dne (k2 _ _ (Ne.symm dne) hx') hn2 fun f => ?_
        have := r2 f
        simpa using this
/-- what the written part says of the class at C and of its __init__, at fI: its name is cn, its fields fs -/
structure ErrTxt (P : Program) (K : Frag) (mg : Str → Option Value) (tm : Bool) (cn : Str) (C fI : Addr) (fs : List Str) : Prop extends ClsK K C fs where
  gC : mg cn = some (.ref C)
  ga : findIn K (.ref C) "__getattribute__" = some (some (.builtin "BaseException.__getattribute__"))
  gg : findIn K (.ref C) "__getattr__" = some none
  iC : findIn K (.ref C) "__init__" = some (some (.ref fI))
  tC : typeIn K (.ref fI) = some (.type "function")
  kC : keepIn K (.ref C) = true
  exC : subIn K (.ref C) (.type "BaseException") = some true
  veC : subIn K (.ref C) (.type "ValueError") = some true
  tyC : typeIn K (.ref C) = some (.type "type")
  hdC : hasDictIn K C = true
  sup : ks_superIn K C C "__init__" = some (some (.builtin "ValueError.__init__"))
  mro : mroIn K C (.ref C) = some true
  sub : subIn K (.ref C) (.ref C) = some true
  ca : findIn K (.ref C) "__class__" = some (some (.builtin "object.__class__"))
  cg : specialIn K (.builtin "object.__class__") "__get__" = some (some (.builtin "getset_descriptor.__get__"))
  ct : takesIn K (.builtin "object.__class__") = some true
  mo : mroIn K C (.type "object") = some true
  opq : nsIn K cStatics "thirdparty.any" = some none
  msup : mg "super" = none
  top : (P.main.scope.names.lookup ("super" : Str)).isSome = false
  fn : ∃ (oc : Value) (od : Option Addr) (qual : Str) (par : Arguments) (sc : Scope) (msg : Expr) (p1 p2 p3 p4 p5 : Pos) (fp : List FP) (dV kV doc pm : Value) (an : Option Addr) (cda cc : Addr) (ct : Value) (osl : Array (Option Value)) (ar : Arg)
      (ccl cl : Value) (cdd cld : Option Addr) (ccs csl : Array (Option Value)) (vs : Array Value) (file : Str) (tf : Tok),
    K.lookup fI = some ⟨oc, od, .func (ksFn "__init__" qual par (stS msg p1 p2 p3 p4 p5 :: fp.map stF) sc dV kV doc pm an (.ref cda) ct cc), osl⟩ ∧ codeIn K (.ref cda) qual = true ∧
    (par.posonlyargs ++ par.args).head? = some ar ∧ ar.arg = "self" ∧ K.lookup cda = some ⟨ccl, cdd, .fields vs, ccs⟩ ∧ vs[2]? = some (.str file tf) ∧ ((P.main.file : Str) == file) = true ∧
    K.lookup cc = some ⟨cl, cld, .cell (some (.ref C)), csl⟩ ∧ fp.map (·.1) = fs ∧ (p3.endLine == p4.line) = true ∧
    (sc.names.lookup ("super" : Str) = some .globalImplicit ∧ sc.names.lookup ("__class__" : Str) = some .free ∧ sc.names.lookup ("self" : Str) = some .local ∧ (∀ f ∈ fs, sc.names.lookup f = some .local) ∧ (∀ f ∈ fs, (f == ("__debug__" : Str)) = false) ∧ (∀ y ∈ sc.names, y.2 ≠ .cell)) ∧
    (sc.kind = .function ∧ sc.isGenerator = false ∧ sc.isCoroutine = false) ∧
    (∀ (s : Shared) (x : Value) (us : List Value), us.length = fs.length → BindsTo s (ksFn "__init__" qual par (stS msg p1 p2 p3 p4 p5 :: fp.map stF) sc dV kV doc pm an (.ref cda) ct cc) ⟨x :: us, []⟩ (("self", x) :: fs.zip us)) ∧
    (∀ (x : Value) (us : List Value), us.length = fs.length → ((("self" : Str), x) :: fs.zip us).reverse.lookup ("self" : Str) = some x ∧ Paired (fun f u => ((("self" : Str), x) :: fs.zip us).reverse.lookup f = some u) fs us) ∧
    ((tm = false ∧ ∃ (z : Str) (i : Nat) (p : Pos), msg = .Constant (.str z) i p) ∨ tm = true ∧ ∃ (z f : Str) (i : Nat) (p p' p'' : Pos), msg = .BinOp (.Constant (.str z) i p) .Add (.Name f p') p'' ∧ z.length ≤ 100 ∧ fs.head? = some f)
/-- what __init__ leaves of a fresh exception at x -/
structure InitEnd (h h' : Heap) (x C dx t1 : Addr) (fs : List Str) (vs : List L2.V) : Prop where
  keep : ∀ b o, b ≠ x → h.get? b = some o → h'.get? b = some o
  obj : h'.get? x = some { cls := .ref C, dict := some dx, data := .fields #[.ref t1, .none, .none, .none, .bool false, .none] }
  dbig : h.objs.size ≤ dx
  dne : dx ≠ x
  ns : ∃ mB, h'.Ns1 dx mB ∧ ∀ f, L2.RelO ((fs.zip vs).reverse.lookup f) (mB f)
/-- the built-in __init__, bound, called -/
theorem call_bw {h : Heap} {g : Array GenState} {d : Drawn} {t : Nat} {os : OsState} {u e t0 : Addr} {rest : List Value} {names : List Str} {Q : Value → Shared → Prop} (T : ClsK K C names) (X : K.In h)
    (he : h.get? e = some (excO C t0)) (hu : h.get? u = some (kxs_mw "ValueError.__init__" e)) (hrest : rest.length ≤ sizeLine)
    (hq : ∀ h' t1, (∀ b o, b ≠ e → h.get? b = some o → h'.get? b = some o) → h'.get? e = some (excO C t1) → Q .none ⟨h', g, d, t, os⟩) :
    wpAny (model prog w) A (call (.ref u) rest) Q E ⟨h, g, d, t, os⟩ := by
  obtain ⟨nm, q, N, bs, bm, sn, sub, ab, col, dd, k0, k1, k2, k3, k5, hC, hbm⟩ := T.cls
  refine wpAny_call (codeAny_of_tree ?_)
  show wpAny _ A.in1 (callAny (.ref u) ⟨rest, []⟩) _ _ _
  simp only [callAny]
  refine wpAny_bind (wpAny_load hu ?_)
  simp only [kxs_mw, show (Value.type "method-wrapper" == Value.type "method" || Value.type "method-wrapper" == Value.type "builtin_function_or_method" || Value.type "method-wrapper" == Value.type "method-wrapper") = true by decide, if_true]
  refine W.KFB.if_so (by decide) ?_
  refine wpAny_bind (PySem.W.check_bound_init F.excBase_ValueError.toExcCallFacts (X _ _ hC) he rfl ?_)
  refine wpAny_bind (wpAny_pure (wpAny_pure ?_))
  refine ⟨plainId_quiet F.excBase_ValueError.init.plain _, codeAny_builtin F.excBase_ValueError.initEntry ?_⟩
  exact exc_init_tree (cls := .ref C) (t0 := t0) (dv := none) (c2 := .none) (c3 := .none) (b4 := .bool false) he hrest fun h' k e' _ => hq h' _ k e'
/-- the text that super().__init__ gets -/
def MsgOk (msg : Expr) (env : Env) (m : Str → Option Value) : Prop := ∀ (prog : Program) (w : World) (A : Around) (E : Value → Shared → Prop) (s : Shared) (Q : Value → Shared → Prop), s.heap.Ns env.locals m → (∀ v tk, Q v { s with toks := tk }) → wpAny (model prog w) A (eval msg env) Q E s
/-- its __init__, called -/
theorem err_init {mg : Str → Option Value} {cn : Str} {fI : Addr} {fs : List Str} {tm : Bool} (T : ErrTxt prog K mg tm cn C fI fs) {x t0 : Addr} {us : List Value} {vs : List L2.V} {mb : Str → Option Value} {R : Result → Shared → Prop} (hv : L2.Vals vs us) (hl : us.length = fs.length) (hl8 : fs.length ≤ 8) (hne : fs ≠ [])
    (hmsg : tm = true → ∀ u, us.head? = some u → ∃ (z : Str) (t : Tok), u = .str z t ∧ z.length ≤ 1000)
    (X : K.In s.heap) (hlim : s.heap.NoLimit) (hg : s.heap.Ns mainGlobals mg) (hb : s.heap.Ns builtinsNs mb) (hbs : mb "super" = bootBuiltins "super") (hx : s.heap.get? x = some (excO C t0)) (hnx : K.lookup x = none) (hroom : A.depth < recursionLimit)
    (hq : ∀ h' tk dx t1, InitEnd s.heap h' x C dx t1 fs vs → R (.ok (.ret .none)) { s with heap := h', toks := tk }) :
    codeAny (model prog w) A (.call (.ref fI) ⟨.ref x :: us, []⟩) R s := by
  obtain ⟨oc, od, qual, par, sc, msg, p1, p2, p3, p4, p5, fp, dV, kV, doc, pm, an, cda, cc, ct, osl, ar, ccl, cl, cdd, cld, ccs, csl, avs, file, tf, ho, hcd, har, hself, hcda, hfile, hfe, hcell, hfp, hpos, ⟨nS, nC, nSelf, nF, nD, nCell⟩, ⟨kF, kG, kCo⟩, hbind, hlook, hm⟩ := T.fn
  obtain ⟨lself, lf⟩ := hlook (.ref x) us hl
  obtain ⟨cd, hcd2, hmro, hhd⟩ := T.toClsK.data
  obtain ⟨oD, hD1, hD2⟩ : ∃ oD, s.heap.get? C = some oD ∧ oD.data = .cls cd := by
    unfold clsIn at hcd2
    split at hcd2
    · rename_i c d cd' sl ho'
      cases hcd2
      exact ⟨_, X _ _ ho', rfl⟩
    · cases hcd2
  have hxC : x ≠ C := fun z => by
    rw [z, hD1] at hx
    cases hx
    cases hD2
  refine ks_codeAny_call_defAt (fd := ksFn "__init__" qual par (stS msg p1 p2 p3 p4 p5 :: fp.map stF) sc dV kV doc pm an (.ref cda) ct cc) (body := stS msg p1 p2 p3 p4 p5 :: fp.map stF) (binds := ("self", .ref x) :: fs.zip us) hroom (X _ _ ho) rfl hlim (codeRec_of X hcd) rfl (hbind s (.ref x) us hl) nCell ?_ (fun h₁ hns hk₁ => ?_) kCo kG kF
  · intro y hy
    rcases List.mem_cons.mp hy with rfl | hy
    · exact nSelf
    · exact nF _ (List.of_mem_zip hy).1
  have X₁ : K.In h₁ := X.keeps hk₁
  have hx₁ := hk₁ _ _ hx
  have hLx : s.heap.objs.size ≠ x := Nat.ne_of_gt (Heap.lt_size hx)
  have hMsg : MsgOk msg (ksEnv qual sc s.heap.objs.size fI (.ref cda) cc) (fun y => (((("self" : Str), Value.ref x) :: fs.zip us).reverse.lookup y)) := by
    intro prog w A E s1 Q hn1 hq1
    rcases hm with ⟨_, z, i, p, rfl⟩ | ⟨htm, z, f, i, p, p', p'', rfl, hz, hf⟩
    · exact wpAny_Constant_str (hq1 _ _)
    · cases lf with
      | nil => cases hf
      | cons h1 _ =>
        cases hf
        obtain ⟨z2, t2, rfl, hz2⟩ := hmsg htm _ rfl
        refine wpAny_BinOp (wpAny_Constant_str (ld (env := ksEnv qual sc s.heap.objs.size fI (.ref cda) cc) hn1 h1 ?_ kF (nF _ (List.mem_cons_self ..)) (nD _ (List.mem_cons_self ..))))
        exact add_str (fun t' tk => hq1 _ _) (by rw [sizeLine_eq]; omega)
  obtain ⟨kind, names, isG, isC, more⟩ := sc
  dsimp only at kF kG kCo nS nC nSelf nF nCell
  subst kF kG kCo
  obtain ⟨pl, he⟩ : ∃ pl, eval (.Call (.Attribute (.Call (.Name "super" p1) [] [] p2) "__init__" p3) [msg] [] p4) (ksEnv qual ⟨.function, names, false, false, more⟩ s.heap.objs.size fI (.ref cda) cc) = (do
      let ov ← attributeBase (.Call (.Name "super" p1) [] [] p2) "__init__" (ksEnv qual ⟨.function, names, false, false, more⟩ s.heap.objs.size fI (.ref cda) cc) (eval (.Call (.Name "super" p1) [] [] p2) (ksEnv qual ⟨.function, names, false, false, more⟩ s.heap.objs.size fI (.ref cda) cc))
      standAt p3.atName
      let (f, first) ← holding [ov] (getMethod ov "__init__" pl)
      callWith p4 f first (backTo p4 (starEach [msg] (ksEnv qual ⟨.function, names, false, false, more⟩ s.heap.objs.size fI (.ref cda) cc))) []) := by
    have hmp : ∀ o env, methodCallPos true o env p3 p4 = pure p4 := fun o env => by
      unfold methodCallPos
      rw [hpos] <;> rfl
    have key : ∀ ms : Expr, methodCallForm ([ms].length + ([] : List Keyword).length) (backTo p4 (starEach [ms] (ksEnv qual ⟨.function, names, false, false, more⟩ s.heap.objs.size fI (.ref cda) cc))) (backToKw p4 (keywordEach [] (ksEnv qual ⟨.function, names, false, false, more⟩ s.heap.objs.size fI (.ref cda) cc))) = true →
        eval (.Call (.Attribute (.Call (.Name "super" p1) [] [] p2) "__init__" p3) [ms] [] p4) (ksEnv qual ⟨.function, names, false, false, more⟩ s.heap.objs.size fI (.ref cda) cc) = (do
      let ov ← attributeBase (.Call (.Name "super" p1) [] [] p2) "__init__" (ksEnv qual ⟨.function, names, false, false, more⟩ s.heap.objs.size fI (.ref cda) cc) (eval (.Call (.Name "super" p1) [] [] p2) (ksEnv qual ⟨.function, names, false, false, more⟩ s.heap.objs.size fI (.ref cda) cc))
      standAt p3.atName
      let (f, first) ← holding [ov] (getMethod ov "__init__" (do return (← importBound (.Call (.Name "super" p1) [] [] p2) (ksEnv qual ⟨.function, names, false, false, more⟩ s.heap.objs.size fI (.ref cda) cc)).getD true))
      callWith p4 f first (backTo p4 (starEach [ms] (ksEnv qual ⟨.function, names, false, false, more⟩ s.heap.objs.size fI (.ref cda) cc))) []) := by
      intro ms hf
      show (do
        let ov ← attributeBase (.Call (.Name "super" p1) [] [] p2) "__init__" (ksEnv qual ⟨.function, names, false, false, more⟩ s.heap.objs.size fI (.ref cda) cc) (eval (.Call (.Name "super" p1) [] [] p2) (ksEnv qual ⟨.function, names, false, false, more⟩ s.heap.objs.size fI (.ref cda) cc))
        standAt p3.atName
        methodCall (.Call (.Name "super" p1) [] [] p2) "__init__" p3 p4 (ksEnv qual ⟨.function, names, false, false, more⟩ s.heap.objs.size fI (.ref cda) cc) ov ([ms].length + ([] : List Keyword).length) (backTo p4 (starEach [ms] (ksEnv qual ⟨.function, names, false, false, more⟩ s.heap.objs.size fI (.ref cda) cc))) (backToKw p4 (keywordEach [] (ksEnv qual ⟨.function, names, false, false, more⟩ s.heap.objs.size fI (.ref cda) cc)))) = _
      unfold methodCall
      simp only [hf, hmp, pure_bind]
      rfl
    rcases hm with ⟨_, z, i, p, rfl⟩ | ⟨htm, z, f, i, p, p', p'', rfl, hz, hf⟩
    · exact ⟨_, key _ rfl⟩
    · exact ⟨_, key _ rfl⟩
  have hst : starEach [msg] (ksEnv qual ⟨.function, names, false, false, more⟩ s.heap.objs.size fI (.ref cda) cc) = [(false, eval msg (ksEnv qual ⟨.function, names, false, false, more⟩ s.heap.objs.size fI (.ref cda) cc))] := by
    rcases hm with ⟨_, z, i, p, rfl⟩ | ⟨htm, z, f, i, p, p', p'', rfl, hz, hf⟩
    · rfl
    · rfl
  -- super().__init__(..)
  refine ks_wpAt_execs_cons (ks_wpAt_Expr_any (ks_wpAt_MethodCall (pl := pl) ?_ he))
  refine ks_wpAt_super_base (env := ksEnv qual ⟨.function, names, false, false, more⟩ s.heap.objs.size fI (.ref cda) cc) nS nC (by decide) rfl (hk₁ _ _ (X _ _ ho)) rfl har rfl (X₁ _ _ hcda) rfl hfile hfe T.top ?_
  refine ks_loadName_global rfl nS (loadGlobal_builtin (env := ksEnv qual ⟨.function, names, false, false, more⟩ s.heap.objs.size fI (.ref cda) cc) (hg.keeps hk₁) T.msup (hb.keeps hk₁) (hbs.trans (by first | boot_by_name | rfl | kernel_rfl)) ⟨rfl, ?_⟩)
  refine wpAny_loadName_free rfl nC rfl ⟨_, X₁ _ _ hcell, rfl⟩ ?_
  rw [hself]
  refine wpAny_loadName_local rfl nSelf hns lself ?_
  refine ks_wpAny_isType_cls (hk₁ _ _ hD1) hD2 ⟨rfl, ?_⟩
  refine ks_wpAny_call_super (hk₁ _ _ hD1) hD2 hx₁ rfl (fun c e => by cases e) (looks_mroIn X₁ T.mro) (fun h₂ eso k₂ => ?_)
  have X₂ : K.In h₂ := X₁.keeps k₂
  have hx₂ := k₂ _ _ hx₁
  have hnsU : ∀ {h : Heap}, (∀ b o, h₁.get? b = some o → h.get? b = some o) → h.Ns s.heap.objs.size (fun y => ((("self" : Str), Value.ref x) :: fs.zip us).reverse.lookup y) := fun {h} k => hns.keeps k
  have hsup := T.sup
  unfold ks_superIn at hsup
  rw [hcd2] at hsup
  refine kxs_getMethod kxs_ValueError (K := K) eso (looks_opaque X₂ T.opq) (l₀ := cd.mro) ?_ rfl X₂ hsup ?_ hxC (by decide) ?_
  · exact fun A Q E s k q => wpAny_bind ((looks_clsIn X₂ hcd2) A _ E s k (wpAny_pure q))
  · exact (InstAt.type (od := none) ⟨hx₂, rfl, rfl, trivial⟩).andThen (looks_subIn X₂ T.veC)
  · have k₃ : ∀ b o, h₂.get? b = some o → (h₂.push (kxs_mw "ValueError.__init__" x)).get? b = some o := fun b o e => Heap.get?_push_of_some _ e
    show wpAny _ _ (callWith p4 (.ref h₂.objs.size) [] (backTo p4 (starEach [msg] (ksEnv qual ⟨.function, names, false, false, more⟩ s.heap.objs.size fI (.ref cda) cc))) []) _ _ _
    rw [hst]
    refine kxs_callWith (i := "ValueError.__init__") (x := x) rfl (evalArgs_plain ?_)
    refine spliced_cons ?_
    refine hMsg prog w _ _ _ _ (hnsU fun b o e => k₃ b o (k₂ b o e)) (fun v tk => spliced_nil ⟨?_, ?_⟩)
    · exact Heap.get?_push_at rfl rfl
    · refine call_bw T.toClsK (X₂.keeps k₃) (k₃ _ _ hx₂) (Heap.get?_push_at rfl rfl) (by rw [sizeLine_eq]; exact (by decide : 1 ≤ 16777216)) (fun h₄ t1 k₄ hx₄ => ?_)
      have hsz : ∀ {b : Addr} {o : Obj}, s.heap.get? b = some o → b ≠ x → h₄.get? b = some o := fun {b o} e hb => k₄ b o hb (k₃ b o (k₂ b o (hk₁ b o e)))
      have hL4 : h₄.Ns s.heap.objs.size (fun y => ((("self" : Str), Value.ref x) :: fs.zip us).reverse.lookup y) := by
        obtain ⟨o, es, ep, e1, e2⟩ := hns
        exact ⟨o, es, ep, k₄ _ _ hLx (k₃ _ _ (k₂ _ _ e1)), e2⟩
      cases fp with
      | nil => exact absurd hfp.symm (by simpa using hne)
      | cons q fp =>
        have hP : Paired (fun (q : FP) u => ((("self" : Str), Value.ref x) :: fs.zip us).reverse.lookup q.1 = some u) (q :: fp) us := by
          rw [← hfp] at lf
          have key : ∀ (m : Str → Option Value) (l : List FP) (us : List Value), Paired (fun f u => m f = some u) (l.map (·.1)) us → Paired (fun (q : FP) u => m q.1 = some u) l us := by
            intro m l
            induction l with
            | nil => intro us h; cases h; exact .nil
            | cons a l ih => intro us h; cases h with | cons h1 h2 => exact .cons h1 (ih _ h2)
          have := key (fun y => ((("self" : Str), Value.ref x) :: fs.zip us).reverse.lookup y) (q :: fp) us (by simpa [hfp] using lf)
          exact this
        show wpAt _ _ _ (execs ((q :: fp).map stF) _) _ _ _
        refine wpAt_of_wpAny (stores_new (m := fun y => (((("self" : Str), Value.ref x) :: fs.zip us).reverse.lookup y)) T.toClsK (env := ksEnv qual ⟨.function, names, false, false, more⟩ s.heap.objs.size fI (.ref cda) cc) rfl nSelf lself q fp us vs hv (fun q' hq' => ?_) hP ⟨h₄, s.gens, s.drawn, tk, s.os⟩ _ ((fun a o e => hsz (X a o e) (fun z => by rw [z, hnx] at e; cases e))) hL4 hLx hnx hx₄ ?_ (fun h' tk' dx mB k5 dn dne hx5 hn5 r5 => ?_))
        · have hin : q'.1 ∈ fs := by rw [← hfp]; exact List.mem_map_of_mem hq'
          exact ⟨hin, nF _ hin, nD _ hin⟩
        · have : (q :: fp).length = fs.length := by rw [← hfp, List.length_map]
          simp only [List.length_cons] at this
          omega
        · refine hq h' tk' dx t1 ⟨fun b o hb e => k5 b o hb (hsz e hb), hx5, ?_, dne, mB, hn5, ?_⟩
          · refine Nat.le_trans ?_ dn
            have z1 : s.heap.objs.size < h₄.objs.size := by
              obtain ⟨o, es, ep, e1, e2⟩ := hL4
              exact Heap.lt_size e1
            exact Nat.le_of_lt z1
          · intro f
            have := r5 f
            rw [hfp] at this
            exact this
/-- a made error -/
structure OwnMade (h h' : Heap) (e C d : Addr) (fs : List Str) (vs : List L2.V) : Prop where
  keep : ∀ b o, h.get? b = some o → h'.get? b = some o
  new : h.objs.size ≤ e
  obj : ∃ oe as, h'.get? e = some oe ∧ oe.cls = .ref C ∧ oe.dict = some d ∧ oe.data = .fields as ∧ as[1]? = some .none
  dbig : h.objs.size ≤ d
  dne : d ≠ e
  ns : ∃ mB, h'.Ns1 d mB ∧ ∀ f, L2.RelO ((fs.zip vs).reverse.lookup f) (mB f)
theorem err_made {mg : Str → Option Value} {cn : Str} {fI : Addr} {fs : List Str} {tm : Bool} (T : ErrTxt prog K mg tm cn C fI fs) {us : List Value} {vs : List L2.V} {mb : Str → Option Value} {R : Result → Shared → Prop} (hv : L2.Vals vs us) (hl : us.length = fs.length) (hl8 : fs.length ≤ 8) (hne : fs ≠ [])
    (hmsg : tm = true → ∀ u, us.head? = some u → ∃ (z : Str) (t : Tok), u = .str z t ∧ z.length ≤ 1000)
    (X : K.In s.heap) (hlim : s.heap.NoLimit) (hg : s.heap.Ns mainGlobals mg) (hb : s.heap.Ns builtinsNs mb) (hbs : mb "super" = bootBuiltins "super") (hroom : A.depth + 1 < recursionLimit)
    (hq : ∀ h' tk e d, OwnMade s.heap h' e C d fs vs → R (.ok (.ret (.ref e))) { s with heap := h', toks := tk }) :
    codeAny (model prog w) A (.call (.ref C) ⟨us, []⟩) R s := by
  obtain ⟨nm, q, N, bs, bm, sn, sub, ab, col, dd, k0, k1, k2, k3, k5, hC, hbm⟩ := T.cls
  obtain ⟨hp, g, dr, tk, os⟩ := s
  have k : ∀ b o, hp.get? b = some o → ((hp.push (kdv_tup us)).push (excO C hp.objs.size)).get? b = some o := fun b o e => Heap.get?_push_of_some _ (Heap.get?_push_of_some _ e)
  have hget : ((hp.push (kdv_tup us)).push (excO C hp.objs.size)).get? (hp.objs.size + 1) = some (excO C hp.objs.size) := by heap_get
  have hnx : K.lookup (hp.objs.size + 1) = none := by
    cases e : K.lookup (hp.objs.size + 1) with
    | none => rfl
    | some o =>
      have z : hp.get? (hp.objs.size + 1) = some o := X _ _ e
      exact absurd (Nat.lt_of_succ_lt (Heap.lt_size z)) (Nat.lt_irrefl _)
  refine call_own F.excBase_ValueError (fun X => refsVE_contains X bm hbm) (X _ _ hC) (looks_findIn X T.iC) (fun self => bind_fn X self T.tC) (by rw [sizeLine_eq]; omega) ?_
  refine err_init (s := ⟨(hp.push (kdv_tup us)).push (excO C hp.objs.size), g, dr, tk, os⟩) T hv hl hl8 hne hmsg (X.keeps k) (hlim.keeps k) (hg.keeps k) (hb.keeps k) hbs hget hnx ?_ fun h' tk' dx t1 ⟨k', hx, dn, dne, hns⟩ => ?_
  · show A.depth + 1 < recursionLimit
    exact hroom
  · have old : ∀ b o, hp.get? b = some o → h'.get? b = some o := fun b o e => k' b o (Nat.ne_of_lt (Nat.lt_succ_of_lt (Heap.lt_size e))) (k b o e)
    have z : hp.objs.size + 1 + 1 ≤ dx := by
      first
        | (simpa only [Heap.size_push] using dn)
        | exact dn
        | (have q := dn; rw [Heap.size_push, Heap.size_push] at q; exact q)
    exact ⟨rfl, hq h' tk' (hp.objs.size + 1) dx ⟨old, Nat.le_succ _, ⟨_, _, hx, rfl, rfl, rfl, rfl⟩, Nat.le_trans (Nat.le_trans (Nat.le_succ _) (Nat.le_succ _)) z, dne, hns⟩⟩
end
end HErr
end PySem
namespace L2
open PySem PySem.Spec PyProof.Rows PySem.HErr
section
variable {X : Cx} {C fI : Addr} {cn : Str} {fs : List Str} {tm : Bool}
/-- C(e, ..), an error of the package -/
def tMkE (tm : Bool) (C : Addr) (fs : List Str) (ta : TA) : St → Hp → XK → Prop := fun σ H Q => ta σ H fun vs H1 => vs.length = fs.length ∧ (tm = true → ∃ (z : Str) (r : List V), vs = .str z :: r ∧ z.length ≤ 1000) ∧
  ∀ d, H1 d = none → Q (.ref C) (some d) (upd H1 d (.xd (fs.zip vs).reverse))
theorem pmk_err {a : Expr} {as : List Expr} {ta : TA} {p pos : Pos} {k : Nat} (T : ErrTxt X.prog X.K X.mg tm cn C fI fs) (hr : Room k X.A) (ha : PA X (a :: as) ta) (hl8 : fs.length ≤ 8) (hne : fs ≠ []) (hg : Gl X cn := by rfl) (hdb : (cn == ("__debug__" : Str)) = false := by decide)
    (he : starEach (a :: as) X.env = (false, eval a X.env) :: starEach as X.env := by rfl) (hpl : (backTo pos (starEach as X.env)).any (·.1) = false := by rfl) :
    PMk X (.Call (.Name cn p) (a :: as) [] pos) (tMkE tm C fs ta) := by
  intro pins s σ H Q I h
  refine wpAny_Call_Name_kw (ld_glob I hg T.gC ?_ hdb)
  refine PySem.W.callWith_K (h₀ := X.base) I.ok.mod.kin T.kC (thn (ha.run pos pins s σ H _ I h) fun us s1 hh => ?_) he hpl
  obtain ⟨vs, H1, I1, r1, hl, hz, q1⟩ := hh
  refine ⟨I1.kIn, ?_⟩
  show wpAny _ _ (call (.ref C) us) _ _ _
  have hlim := I1.nolimit
  obtain ⟨mb, hb1, hb2⟩ := I1.mod.blt
  have hgl := I1.mod.glob.keeps I1.bk
  have hbl := hb1.keeps I1.bk
  obtain ⟨hp, g, dr, tk, os⟩ := s1
  refine wpAny_call (err_made (mb := mb) T r1 (r1.length.symm.trans hl) hl8 hne ?_ I1.kIn hlim hgl hbl (hb2 "super" (by decide)) (by have := hr.dp; omega) fun h' tk' e d M => ?_)
  · intro ht u hu
    obtain ⟨z, r, rfl, hz5⟩ := hz ht
    cases r1 with
    | cons r0 _ =>
      cases hu
      obtain ⟨t, rfl⟩ := r0
      exact ⟨z, t, rfl, hz5⟩
  show MkP X pins σ Q (.ref e) ⟨h', g, dr, tk', os⟩
  obtain ⟨oe, fv, hoe, hc, hd, hdat, h1⟩ := M.obj
  obtain ⟨mB, hns, hrel⟩ := M.ns
  obtain ⟨G', g1, g2⟩ := restrict h' fun b => decide (b ≠ e)
  have gk : ∀ b, b ≠ e → G'.get? b = h'.get? b := fun b hb => g1 b (decide_eq_true hb)
  have ge : G'.get? e = none := g2 e (by simp)
  have old : ∀ b o, hp.get? b = some o → G'.get? b = some o := fun b o q => (gk b (Nat.ne_of_lt (Nat.lt_of_lt_of_le (Heap.lt_size q) M.new))).trans (M.keep b o q)
  have ob : ObjOk X.prog X.w (upd H1 d (.xd (fs.zip vs).reverse)) G' d (.xd (fs.zip vs).reverse) :=
    ⟨mB, hns.at (fun o q => (gk d M.dne).trans q), hrel⟩
  have J : Inv X pins σ (upd H1 d (.xd (fs.zip vs).reverse)) ⟨G', g, dr, tk', os⟩ := I1.laid (t' := tk') old M.dbig ob
  refine ⟨e, oe, fv, ⟨G', g, dr, tk', os⟩, _, .ref C, some d, rfl, J, fun b o q => ?_, ge, hoe, ⟨hc, hd⟩, hdat, h1, ?_, rfl, I1.bare, raises_own T.exC T.tyC, q1 d (I1.hok.fresh M.dbig)⟩
  · by_cases hb : b = e
    · have q' : G'.get? b = some o := q
      rw [hb, ge] at q'; cases q'
    · exact (gk b hb).symm.trans q
  · rw [upd_ne (Ne.symm M.dne)]
    exact I1.hok.fresh M.new
/-- raise C(e, ..) -/
def tRaiseE (tm : Bool) (C : Addr) (fs : List Str) (W : WX) (ta : TA) : TS := fun _ σ H => tMkE tm C fs ta σ H fun cls d H' => W cls d σ H'
theorem ps_raiseE {a : Expr} {as : List Expr} {ta : TA} {W : WX} {p pos pos2 : Pos} {k : Nat} (hc : X.calm = true) (T : ErrTxt X.prog X.K X.mg tm cn C fI fs) (hr : Room k X.A) (tk : Takes X W) (ha : PA X (a :: as) ta) (hl8 : fs.length ≤ 8 := by decide) (hne : fs ≠ [] := by decide) (hg : Gl X cn := by rfl) (hdb : (cn == ("__debug__" : Str)) = false := by decide)
    (he : starEach (a :: as) X.env = (false, eval a X.env) :: starEach as X.env := by rfl) (hpl : (backTo pos (starEach as X.env)).any (·.1) = false := by rfl) :
    PS X (.Raise (some (.Call (.Name cn p) (a :: as) [] pos)) none pos2) (tRaiseE tm C fs W ta) := ps_raise hc tk (pmk_err T hr ha hl8 hne hg hdb he hpl)
/-- an own class in an except clause -/
theorem _root_.PySem.HErr.ErrTxt.xf {P : Program} {K : PySem.W.Frag} {mg : Str → Option Value} (T : ErrTxt P K mg tm cn C fI fs) : XfC K C := ⟨T.ga, T.gg, T.exC, T.hdC⟩
theorem _root_.PySem.HErr.ErrTxt.te {P : Program} {K : PySem.W.Frag} {mg : Str → Option Value} (T : ErrTxt P K mg tm cn C fI fs) : PySem.W.exmOne K (.ref C) (.ref C) = some true := PySem.W.exm_ref T.exC T.hdC T.tyC T.sub
/-- what isinstance asks of the class of an error -/
structure IsC (K : PySem.W.Frag) (D : Addr) : Prop where
  hg : PySem.W.findIn K (.ref D) "__getattribute__" = some (some (.builtin "BaseException.__getattribute__"))
  hk : PySem.W.findIn K (.ref D) "__getattr__" = some none
  hs : PySem.W.subIn K (.ref D) (.type "BaseException") = some true
  hd : PySem.W.hasDictIn K D = true
  ha : PySem.W.findIn K (.ref D) "__class__" = some (some (.builtin "object.__class__"))
  hn : PySem.W.specialIn K (.builtin "object.__class__") "__get__" = some (some (.builtin "getset_descriptor.__get__"))
  ht : PySem.W.takesIn K (.builtin "object.__class__") = some true
  hm : PySem.W.mroIn K D (.type "object") = some true
theorem _root_.PySem.HErr.ErrTxt.isC {P : Program} {K : PySem.W.Frag} {mg : Str → Option Value} (T : ErrTxt P K mg tm cn C fI fs) : IsC K C := ⟨T.ga, T.gg, T.exC, T.hdC, T.ca, T.cg, T.ct, T.mo⟩
/-- isinstance(e, c), e the error (with fields) that the suite holds -/
def rIsD (K : PySem.W.Frag) (cls : Value) (d : Option Addr) (a : Addr) : List V → Hp → VK → Prop := fun xs H Q => ∃ (D dd : Addr) (fs : List (Str × V)) (c : V) (cv : Value) (b : Bool), cls = .ref D ∧ IsC K D ∧ d = some dd ∧ H dd = some (.xd fs) ∧ xs = [.ref a, c] ∧ (∀ u, RelV c u → u = cv) ∧ PySem.W.kitOne K (.ref D) cv = some b ∧ Q (.bl b) H
theorem call_isD {a : Addr} {oe : Obj} {cls : Value} {d : Option Addr} {pn : List (Addr × Obj)} (hz : Zc cls d oe) (hf : ∃ vs, oe.data = .fields vs) : CallR (X.suite a ((a, oe) :: pn)) (.builtin "isinstance") (rIsD X.K cls d a) := by
  intro pins s σ H xs us Q I r h
  obtain ⟨D, dd, fs, c, cv, b, rfl, C, rfl, hdd, rfl, hcv, e, q⟩ := h
  cases r with
  | cons rx rr =>
    cases rr with
    | cons rt rr =>
      cases rr
      cases rx
      have ec := hcv _ rt
      subst ec
      obtain ⟨hget, _⟩ := I.pin (a, oe) (List.mem_append.mpr (.inl List.mem_cons_self))
      obtain ⟨vs, hv⟩ := hf
      have hx : ObjOk X.prog X.w H s.heap dd (.xd fs) := I.hok dd _ hdd
      obtain ⟨mA, hns, hr⟩ := hx
      obtain ⟨od, ho, hl⟩ := lookIn_ns hns
      have J : PySem.W.InstAt s.heap a oe D (some od) := ⟨hget, hz.1, by unfold PySem.W.notCls; rw [hv] <;> rfl, by rw [hz.2]; exact ho⟩
      have hcl : (PySem.W.clsIn X.K D).isSome = true := by
        obtain ⟨cd, hc, _⟩ := PySem.W.any_some C.hd
        rw [hc]
        rfl
      exact PySem.W.kia_one (PySem.W.kitx_exc hcl C.hg C.hk C.hs C.ha C.hn C.ht C.hm) I.kIn J e (fun z => nomatch z) fun tk => ⟨.bl b, H, I.kept (t' := tk) fun _ _ z => z, rfl, q⟩
end
end L2
set_option Elab.async false
set_option linter.all false
set_option maxRecDepth 100000
set_option maxHeartbeats 4000000
namespace L2
open PySem PySem.Spec PyProof.Rows PySem.HErr
abbrev Clause := Value × Option Nat × (Addr → Value → Option Addr → TS)
def endsAt (o : Option Nat) (D : Ends) : Ends := match o with
  | none => D
  | some i => { nx := fun σ H => D.nx (σ.set i none) H, rt := D.rt, bk := fun σ H => D.bk (σ.set i none) H, ct := fun σ H => D.ct (σ.set i none) H }
def slotAtH (o : Option Nat) (a : Addr) (σ : St) : St := match o with
  | none => σ
  | some i => σ.set i (some (.ref a))
/-- what the clauses want of an exception of the body, from the first on -/
def wClauses (K : PySem.W.Frag) (Wout : WX) (D : Ends) : List Clause → WX
  | [] => Wout
  | (c, o, ts) :: r => fun cls d σ H => ∃ b, PySem.W.exmOne K cls c = some b ∧ (b = true → ∀ a, H a = none → ts a cls d (endsAt o D) (slotAtH o a σ) H) ∧ (b = false → wClauses K Wout D r cls d σ H)
inductive Clauses (X : Cx) : List ExceptHandler → List Clause → Prop
  | nil : Clauses X [] []
  | bare {x : Str} {c : Value} {ts : Addr → Value → Option Addr → TS} {b₀ : Stmt} {suite : List Stmt} {np pos' : Pos} {hds : List ExceptHandler} {l : List Clause} (hc : Names X x c)
      (hsu : ∀ (a : Addr) (oe : Obj) (cls : Value) (d : Option Addr) (pn : List (Addr × Obj)), Zc cls d oe → (∃ vs, oe.data = .fields vs) → PSs (X.suite a ((a, oe) :: pn)) (b₀ :: suite) (ts a cls d)) (r : Clauses X hds l) :
      Clauses X (.ExceptHandler (some (.Name x np)) none (b₀ :: suite) pos' :: hds) ((c, none, ts) :: l)
  | named {x n : Str} {i : Nat} {c : Value} {ts : Addr → Value → Option Addr → TS} {b₀ : Stmt} {suite : List Stmt} {np pos' : Pos} {hds : List ExceptHandler} {l : List Clause} (hi : X.N[i]? = some n) (hln : X.env.kindOf n = some .local) (hc : Names X x c)
      (hsu : ∀ (a : Addr) (oe : Obj) (cls : Value) (d : Option Addr) (pn : List (Addr × Obj)), Zc cls d oe → (∃ vs, oe.data = .fields vs) → PSs (X.suite a ((a, oe) :: pn)) (b₀ :: suite) (ts a cls d)) (r : Clauses X hds l) :
      Clauses X (.ExceptHandler (some (.Name x np)) (some n) (b₀ :: suite) pos' :: hds) ((c, some i, ts) :: l)
section
variable {X : Cx} {body : List Stmt} {h₀ : ExceptHandler} {hds : List ExceptHandler} {l : List Clause} {pos : Pos} {tb : WX → TS} {Wout : WX}
theorem ps_try_all (hs : X.stack = X.env :: X.outer) (hf : X.env.frame = some X.env.locals) (hN : X.N.Nodup) (tk : Takes X Wout)
    (hb : ∀ (W : WX) (pn : List (Addr × Obj)) (xe : Value → Shared → Prop), Takes (X.tr pn xe) W → PassesOwn (model X.prog X.w) X.A X.env xe → PSs (X.tr pn xe) body (tb W))
    (hh : Clauses X (h₀ :: hds) l) {K : PySem.W.Frag} (hK : X.K = K := by rfl) : PS X (.Try body (h₀ :: hds) [] [] pos) (fun D σ H => tb (wClauses K Wout D l) D σ H) := by
  subst hK
  refine ⟨fun pins s σ H D I h => ?_⟩
  have ok := I.ok
  have hfr : X.A.frames = some (X.env :: X.outer) := by rw [ok.frames, hs]
  refine wpAny_Try_except ?_
  refine wpAny_mono ((hb (wClauses X.K Wout D l) (X.pn ++ pins) (fun e s₁ => wpAny (model X.prog X.w) X.A (noteFrame e X.env) (fun _ s₂ => wpAny (model X.prog X.w) X.A (setFlight e none) (fun _ s₃ =>
    wpAny (model X.prog X.w) X.A (handleBy e X.env (h₀ :: hds)) (SP X pins D) X.xe s₃) X.xe s₂) X.xe s₁) (fun u s' xx => ?_) PassesOwn.looking).run [] s σ H D (I.toTry _) h) (fun f s1 hsp => ?_) (fun e s1 he => he)
  · obtain ⟨a, Bg, sI, pins', σ', H', cls, d, rfl, J', nb, up, sky, na, os, ag, ww⟩ := xx
    have J : Inv X pins σ' H' sI := J'.ofTry ok
    have sky' : Sky Bg (X.env :: X.outer) a (Zc cls d) X.env.locals s'.heap := by rw [← hs]; exact sky
    show wpAny (model X.prog X.w) X.A (noteFrame (.ref a) X.env) _ _ _
    refine Sky.land Zc.steady hfr hf sky' fun h3 fl3 up3 => ?_
    have J3 : Inv X pins σ' H' { s' with heap := h3 } := J.landed nb fl3.1 (up.trans up3) os ag
    obtain ⟨oe3, vs3, he3, hz3, hd3⟩ := fl3.there
    have nfr : a ∉ frs (X.env :: X.outer) := fun hm => by
      obtain ⟨_, o', e', hnf⟩ := fl3.2.2.1.mem hm
      rw [he3] at e'
      cases e'
      exact hnf _ hd3
    have nL : a ≠ X.env.locals := fun z => nfr (List.mem_filterMap.mpr ⟨X.env, List.mem_cons_self, by rw [hf, z]⟩)
    have nF : a ∉ X.fs := fun hm => by
      obtain ⟨e, he, q⟩ := List.mem_filterMap.mp hm
      exact nfr (List.mem_filterMap.mpr ⟨e, List.mem_cons_of_mem _ he, q⟩)
    have S3 := J3.suite he3 hd3 na nL nF
    have test : ∀ {x : Str} {c : Value} {np : Pos} {Q : Value → Shared → Prop} {E : Value → Shared → Prop}, Names X x c → Q c { s' with heap := h3 } → wpAny (model X.prog X.w) (X.A.mark (some (.ref a))) (eval (.Name x np) X.env) Q E { s' with heap := h3 } := fun {x c np Q E} hc q => by
      obtain ⟨hg, hdbg, hm | ⟨hm, hv, hnn⟩⟩ := hc
      · exact ld_glob (X := X.suite a ((a, oe3) :: (X.pn ++ pins))) S3 hg hm q hdbg
      · exact ld_blt (X := X.suite a ((a, oe3) :: (X.pn ++ pins))) S3 hg hm hv q hnn hdbg
    have LT : PySem.W.Looks (model X.prog X.w) h3 (typeOf (.ref a)) cls := fun A Q E s k q => wpAny_typeOf_ref (k _ _ he3) (by rw [hz3.1]; exact q)
    have go : ∀ {hds' : List ExceptHandler} {l' : List Clause}, Clauses X hds' l' → wClauses X.K Wout D l' cls d σ' H' →
        wpAny (model X.prog X.w) X.A (handleBy (.ref a) X.env hds') (SP X pins D) X.xe { s' with heap := h3 } := by
      intro hds' l' hk
      induction hk with
      | nil =>
        intro ww
        refine wpAny_handleBy_nil ?_
        obtain ⟨k1, k2, k3, oe, vs, T, oT, ts', he, hz, hd, h1, hr⟩ := id fl3
        unfold PySem.passOn
        refine wpAny_bind (wpAny_field he hd h1 ?_)
        rw [if_neg (show ¬ ((Value.ref T == Value.none) = true) from by simp)]
        have fin : wpAny (model X.prog X.w) X.A (setFlight (.ref a) X.env.frame) (fun _ s4 => wpAny (model X.prog X.w) X.A (throw (.ref a) : Sem Flow) (SP X pins D) X.xe s4) X.xe { s' with heap := h3 } := by
          rw [hf]
          refine HandSPX.setFlight_upZ fl3 fun h4 hh4 up4 => wpAny_throw (tk _ _ ?_)
          exact ⟨a, Bg, sI, pins, σ', H', cls, d, rfl, J, nb, (up.trans up3).trans up4, .inr (.inr (by rw [hs]; exact hh4)), na, os, ag, ww⟩
        first
          | exact wpAny_bind (wpAny_pure (wpAny_bind fin))
          | exact wpAny_bind fin
      | @bare x c ts b₀ suite np pos' hds2 l2 hc hsu r ih =>
        intro ww
        obtain ⟨b, hb1, hyes, hno⟩ := ww
        refine wpAny_handleBy_cons (codeAny_handlers_test ?_) (by intro q; cases q)
        have LM := PySem.W.exm_one (M := model X.prog X.w) (J3.kIn) LT hb1
        refine test hc (LM.here ?_)
        cases b with
        | true =>
          refine codeAny_handlers_suite (HandSPX.lands_againZ fl3 fun h4 fl4 up4 => ?_)
          have J4 : Inv X pins σ' H' { s' with heap := h4 } := J.landed nb fl4.1 ((up.trans up3).trans up4) os ag
          obtain ⟨oe4, vs4, he4, hz4, hd4⟩ := fl4.there
          have S4 := J4.suite he4 hd4 na nL nF
          refine wpAny_mono ((hsu a oe4 cls d (X.pn ++ pins) hz4 ⟨_, hd4⟩).run [] _ _ H' _ S4 (hyes rfl a na)) (fun f s6 hsp => ?_) (fun _ _ z => False.elim z)
          cases f with
          | ret u =>
            obtain ⟨v6, σ6, H6, S6, r6, q6⟩ := hsp
            exact ⟨_, _, _, S6.unsuite ok, r6, q6⟩
          | _ =>
            obtain ⟨σ6, H6, S6, q6⟩ := hsp
            exact ⟨_, _, S6.unsuite ok, q6⟩
        | false =>
          show wpAny _ X.A (handleBy (.ref a) X.env hds2) _ _ _
          exact ih (hno rfl)
      | @named x n i c ts b₀ suite np pos' hds2 l2 hi hln hc hsu r ih =>
        intro ww
        obtain ⟨b, hb1, hyes, hno⟩ := ww
        refine wpAny_handleBy_cons (codeAny_handlers_test ?_) (by intro q; cases q)
        have LM := PySem.W.exm_one (M := model X.prog X.w) (J3.kIn) LT hb1
        refine test hc (LM.here ?_)
        cases b with
        | true =>
          refine codeAny_handlers_suite_as (HandSPX.lands_againZ fl3 fun h4 fl4 up4 => ?_)
          have J4 : Inv X pins σ' H' { s' with heap := h4 } := J.landed nb fl4.1 ((up.trans up3).trans up4) os ag
          obtain ⟨oe4, vs4, he4, hz4, hd4⟩ := fl4.there
          have S4 := J4.suite he4 hd4 na nL nF
          refine store_ok (X := X.suite a ((a, oe4) :: (X.pn ++ pins))) (v := .ref a) S4 hN hi (.inl hln) rfl (fun s5 S5 => ?_) (.inr hln)
          refine wpAny_mono ((hsu a oe4 cls d (X.pn ++ pins) hz4 ⟨_, hd4⟩).run [] s5 _ H' _ S5 (hyes rfl a na)) (fun f s6 hsp => ?_) (fun _ _ z => False.elim z)
          have end_ : ∀ {σ6 : St} {H6 : Hp} {Q : Shared → Prop}, Inv (X.suite a ((a, oe4) :: (X.pn ++ pins))) [] σ6 H6 s6 → (∀ s7, Inv X pins (σ6.set i none) H6 s7 → Q s7) →
              wpAny (model X.prog X.w) X.A (do bindName X.env n .none; unbindBehindTheSuite X.env n pos') (fun _ s7 => Q s7) X.xe s6 := fun {σ6 H6 Q} S6 hq => gone_ok (S6.unsuite ok) hN hi hln hq
          cases f with
          | ret u =>
            obtain ⟨v6, σ6, H6, S6, r6, q6⟩ := hsp
            exact end_ S6 fun s7 J7 => ⟨_, _, _, J7, r6, q6⟩
          | next =>
            obtain ⟨σ6, H6, S6, q6⟩ := hsp
            exact end_ S6 fun s7 J7 => ⟨_, _, J7, q6⟩
          | brk =>
            obtain ⟨σ6, H6, S6, q6⟩ := hsp
            exact end_ S6 fun s7 J7 => ⟨_, _, J7, q6⟩
          | cont =>
            obtain ⟨σ6, H6, S6, q6⟩ := hsp
            exact end_ S6 fun s7 J7 => ⟨_, _, J7, q6⟩
        | false =>
          show wpAny _ X.A (handleBy (.ref a) X.env hds2) _ _ _
          exact ih (hno rfl)
    exact go hh ww
  · cases f with
    | next =>
      obtain ⟨σ', H', J', q⟩ := hsp
      exact wpAny_execs_nil ⟨σ', H', J'.ofTry ok, q⟩
    | brk =>
      obtain ⟨σ', H', J', q⟩ := hsp
      exact ⟨σ', H', J'.ofTry ok, q⟩
    | cont =>
      obtain ⟨σ', H', J', q⟩ := hsp
      exact ⟨σ', H', J'.ofTry ok, q⟩
    | ret u =>
      obtain ⟨v, σ', H', J', r, q⟩ := hsp
      exact ⟨v, σ', H', J'.ofTry ok, r, q⟩
end
end L2
set_option Elab.async false
set_option linter.all false
set_option maxRecDepth 100000
set_option maxHeartbeats 4000000
namespace L2
open PySem PySem.Spec PyProof.Rows PySem.HErr
/-- none of these built-ins is shadowed -/
structure Bl (mg : Str → Option Value) : Prop where
  len : mg "len" = none
  range : mg "range" = none
  abs : mg "abs" = none
  sum : mg "sum" = none
  sorted : mg "sorted" = none
  isinstance : mg "isinstance" = none
  zip : mg "zip" = none
  enumerate : mg "enumerate" = none
  reversed : mg "reversed" = none
  int' : mg "int" = none
  str' : mg "str" = none
  list' : mg "list" = none
  tuple' : mg "tuple" = none
  bool' : mg "bool" = none
  all' : mg "all" = none
  any' : mg "any" = none
  ValueError : mg "ValueError" = none
/-- the module's name x is the value v -/
def Glo (mg : Str → Option Value) (x : Str) (v : V) : Prop := ∃ u, mg x = some u ∧ RelV v u
/-- where a def's text stands -/
def LkF (K : PySem.W.Frag) (f : Addr) (fd : FuncData) : Prop := ∃ (oc : Value) (od : Option Addr) (osl : Array (Option Value)), K.lookup f = some ⟨oc, od, .func fd, osl⟩
/-- a def, with whatever defaults -/
structure FunA (K : PySem.W.Frag) (x qual : Str) (st : Stmt) (f : Addr) (fd : FuncData) : Prop where
  ex : ∃ (oc : Value) (od : Option Addr) (dV kV doc pm : Value) (an : Option Addr) (cdv ct : Value) (osl : Array (Option Value)),
    fd = PySem.W.fnOf x qual (defArgs st) (defBody st) (defScope st) dV kV doc pm an cdv ct ∧ K.lookup f = some ⟨oc, od, .func fd, osl⟩ ∧ PySem.W.codeIn K cdv qual = true
  kp : PySem.W.keepIn K (.ref f) = true
section
variable {P : Program} {w : World} {K : PySem.W.Frag} {mg : Str → Option Value} {base : Heap}
theorem FunA.lk {x qual : Str} {st : Stmt} {f : Addr} {fd : FuncData} (F : FunA K x qual st f fd) : LkF K f fd := by
  obtain ⟨oc, od, dV, kV, doc, pm, an, cdv, ct, osl, _, lk, _⟩ := F.ex
  exact ⟨oc, od, osl, lk⟩
theorem PySem_Fun_a {x qual : Str} {st : Stmt} {f : Addr} {fd : FuncData} (F : Fun K x qual st f fd) : FunA K x qual st f fd := by
  obtain ⟨oc, od, kV, doc, pm, an, cdv, ct, osl, e, lk, hcd⟩ := F.ex
  exact ⟨⟨oc, od, .none, kV, doc, pm, an, cdv, ct, osl, e, lk, hcd⟩, F.kp⟩
theorem FunA.ok {x qual : Str} {st : Stmt} {f : Addr} {fd : FuncData} {N ps : List Str} {k : Nat} {sp : Sp} (F : FunA K x qual st f fd) (S : FnScope N ps (defScope st)) (len : ∀ vs H Q E, sp vs H Q E → vs.length = ps.length)
    (hbody : ∀ (cdv : Value) (A : Around) (outer : List Env) (s : Shared) (H : Hp) (vs : List V) (Q : VK) (E : XK), Room k (A.deeper (envOfC qual (defScope st) s.heap.objs.size f cdv)) → sp vs H Q E →
      ∃ t, PSs (cxOf CX0 P w K mg base N qual (defScope st) f cdv A outer s H E).nox (defBody st) t ∧ t { nx := fun _ H' => Q .non H', rt := Q } (start N vs) H) : FnOk P w K mg base CX0 (k + 1) f fd ps sp := by
  obtain ⟨oc, od, dV, kV, doc, pm, an, cdv, ct, osl, rfl, lk, hcd⟩ := F.ex
  refine fn_of lk hcd S len fun A outer s H vs Q E hr hsp => ?_
  obtain ⟨t, h, q⟩ := hbody cdv A outer s H vs Q E hr hsp
  exact ⟨t, h.nox, q⟩
theorem FunA.okX {x qual : Str} {st : Stmt} {f : Addr} {fd : FuncData} {N ps : List Str} {k : Nat} {sp : Sp} (F : FunA K x qual st f fd) (S : FnScope N ps (defScope st)) (len : ∀ vs H Q E, sp vs H Q E → vs.length = ps.length)
    (hbody : ∀ (cdv : Value) (A : Around) (outer : List Env) (s : Shared) (H : Hp) (vs : List V) (Q : VK) (E : XK), Room k (A.deeper (envOfC qual (defScope st) s.heap.objs.size f cdv)) → sp vs H Q E →
      ∃ t, PSs (cxOf (L2.CX P w) P w K mg base N qual (defScope st) f cdv A outer s H E) (defBody st) t ∧ t { nx := fun _ H' => Q .non H', rt := Q } (start N vs) H) : FnOk P w K mg base (L2.CX P w) (k + 1) f fd ps sp := by
  obtain ⟨oc, od, dV, kV, doc, pm, an, cdv, ct, osl, rfl, lk, hcd⟩ := F.ex
  exact fn_of lk hcd S len fun A outer s H vs Q E hr hsp => hbody cdv A outer s H vs Q E hr hsp
end
/-- a def of the text stands where its name says -/
structure Src (K : PySem.W.Frag) (mg : Str → Option Value) (x : Str) (st : Stmt) (ps : List Str) : Prop where
  ex : ∃ f fd, FunA K x x st f fd ∧ mg x = some (.ref f) ∧ Binds K fd ps []
/-- the def x keeps the promise sp -/
structure Def (P : Program) (w : World) (K : PySem.W.Frag) (mg : Str → Option Value) (base : Heap) (CX : CXT) (k : Nat) (x : Str) (ps : List Str) (sp : Sp) : Prop where
  ex : ∃ f fd, LkF K f fd ∧ mg x = some (.ref f) ∧ PySem.W.keepIn K (.ref f) = true ∧ Binds K fd ps [] ∧ FnOk P w K mg base CX k f fd ps sp
section
variable {P : Program} {w : World} {K : PySem.W.Frag} {mg : Str → Option Value} {base : Heap} {CX : CXT} {x : Str} {st : Stmt} {N ps : List Str} {k : Nat} {sp : Sp}
theorem Def.mono {j : Nat} (D : Def P w K mg base CX j x ps sp) (h : j ≤ k) : Def P w K mg base CX k x ps sp := by
  obtain ⟨f, fd, hlk, h1, h2, h3, h4⟩ := D.ex
  exact ⟨f, fd, hlk, h1, h2, h3, h4.mono h⟩
theorem Def.imp {sp' : Sp} (D : Def P w K mg base CX k x ps sp) (h : ∀ vs H Q E, sp' vs H Q E → sp vs H Q E) : Def P w K mg base CX k x ps sp' := by
  obtain ⟨f, fd, hlk, h1, h2, h3, h4⟩ := D.ex
  exact ⟨f, fd, hlk, h1, h2, h3, h4.imp h⟩
theorem Src.ok (F : Src K mg x st ps) (S : FnScope N ps (defScope st)) (len : ∀ vs H Q E, sp vs H Q E → vs.length = ps.length)
    (hbody : ∀ (f : Addr) (cdv : Value) (A : Around) (outer : List Env) (s : Shared) (H : Hp) (vs : List V) (Q : VK) (E : XK), Room k (A.deeper (envOfC x (defScope st) s.heap.objs.size f cdv)) → sp vs H Q E →
      ∃ t, PSs (cxOf CX0 P w K mg base N x (defScope st) f cdv A outer s H E).nox (defBody st) t ∧ t { nx := fun _ H' => Q .non H', rt := Q } (start N vs) H) : Def P w K mg base CX0 (k + 1) x ps sp := by
  obtain ⟨f, fd, h1, h2, h3⟩ := F.ex
  exact ⟨f, fd, h1.lk, h2, h1.kp, h3, h1.ok S len (hbody f)⟩
theorem Src.okX (F : Src K mg x st ps) (S : FnScope N ps (defScope st)) (len : ∀ vs H Q E, sp vs H Q E → vs.length = ps.length)
    (hbody : ∀ (f : Addr) (cdv : Value) (A : Around) (outer : List Env) (s : Shared) (H : Hp) (vs : List V) (Q : VK) (E : XK), Room k (A.deeper (envOfC x (defScope st) s.heap.objs.size f cdv)) → sp vs H Q E →
      ∃ t, PSs (cxOf (L2.CX P w) P w K mg base N x (defScope st) f cdv A outer s H E) (defBody st) t ∧ t { nx := fun _ H' => Q .non H', rt := Q } (start N vs) H) : Def P w K mg base (L2.CX P w) (k + 1) x ps sp := by
  obtain ⟨f, fd, h1, h2, h3⟩ := F.ex
  exact ⟨f, fd, h1.lk, h2, h1.kp, h3, h1.okX S len (hbody f)⟩
end
section
variable {X : Cx} {CX : CXT} {k : Nat} {ps : List Str} {sp : Sp} {x : Str} {p pos : Pos} {e : Expr} {es : List Expr} {t : TA}
theorem pe_def {E : XK} (D : Def X.prog X.w X.K X.mg X.base CX k x ps sp) (hr : Room k X.A) (hx : Passes CX X E) (ha : PA X (e :: es) t) (hg : Gl X x := by rfl)
    (hdb : (x == ("__debug__" : Str)) = false := by decide) (he : starEach (e :: es) X.env = (false, eval e X.env) :: starEach es X.env := by rfl) (hpl : (backTo pos (starEach es X.env)).any (·.1) = false := by rfl) :
    PE X (.Call (.Name x p) (e :: es) [] pos) (tCall sp [] E t) := by
  obtain ⟨f, fd, hlk, h1, h2, h3, h4⟩ := D.ex
  exact pe_call h4 hr hg h1 h2 h3 .nil hx ha hdb he hpl
theorem pe_defS {E : St → XK} (D : Def X.prog X.w X.K X.mg X.base CX k x ps sp) (hr : Room k X.A) (hx : ∀ σ, PassesAt CX X σ (E σ)) (ha : PA X (e :: es) t) (hg : Gl X x := by rfl)
    (hdb : (x == ("__debug__" : Str)) = false := by decide) (he : starEach (e :: es) X.env = (false, eval e X.env) :: starEach es X.env := by rfl) (hpl : (backTo pos (starEach es X.env)).any (·.1) = false := by rfl) :
    PE X (.Call (.Name x p) (e :: es) [] pos) (tCallS sp E t) := by
  obtain ⟨f, fd, hlk, h1, h2, h3, h4⟩ := D.ex
  exact pe_callS h4 hr hg h1 h2 h3 hx ha hdb he hpl
theorem pe_glo {v : V} (h : Glo X.mg x v) (hg : Gl X x := by rfl) (hd : (x == ("__debug__" : Str)) = false := by decide) : PE X (.Name x p) (tC v) := by
  obtain ⟨u, h1, h2⟩ := h
  exact pe_glob hg h1 h2 hd
end
section
variable {X : Cx} {K : PySem.W.Frag}
def rLenQ (K : PySem.W.Frag) : List V → Hp → VK → Prop := fun xs H Q => ∃ p ys, xs = [.ref p] ∧ (SqL K H p ys ∨ SqT K H p ys) ∧ Q (.int ys.length) H
def rListQ (K : PySem.W.Frag) : List V → Hp → VK → Prop := fun xs H Q => ∃ p ys, xs = [.ref p] ∧ (SqL K H p ys ∨ SqT K H p ys) ∧ ∀ l, H l = none → Q (.ref l) (upd H l (.lst ys))
def rTupQ (K : PySem.W.Frag) : List V → Hp → VK → Prop := fun xs H Q => ∃ p ys, xs = [.ref p] ∧ ((SqL K H p ys ∧ ∀ l, H l = none → Q (.ref l) (upd H l (.tup ys))) ∨ (SqT K H p ys ∧ Q (.ref p) H))
theorem kix_list (h : X.K = K := by rfl) : IxR X (rIxL K) := h ▸ ix_list
theorem kix_tup (h : X.K = K := by rfl) : IxR X (rIxT K) := h ▸ ix_tup
theorem ksl_list (h : X.K = K := by rfl) : SlR X (rSlL K) := h ▸ sl_list
theorem kop_eqD (hu : X.A.units + 64 < cLine) (h : X.K = K := by rfl) : OpR X (compareOp .Eq) (rEqD K) := h ▸ op_eqD hu
theorem kop_neD (hu : X.A.units + 64 < cLine) (h : X.K = K := by rfl) : OpR X (compareOp .NotEq) (rNeD K) := h ▸ op_neD hu
theorem kcall_len (h : X.K = K := by rfl) : CallR X (.builtin "len") (rLenQ K) := h ▸ call_len_seq
theorem kcall_list (h : X.K = K := by rfl) : CallR X (.type "list") (rListQ K) := h ▸ call_list_of
theorem kcr_any (hc : X.calm = true) (h : X.K = K := by rfl) : CallR X (.builtin "any") (rAny K) := h ▸ cr_any hc
theorem kcall_isi (h : X.K = K := by rfl) : CallR X (.builtin "isinstance") (rIsi K) := h ▸ call_isi
theorem kpi_list {tg l : Expr} {tl : TE} (hl : PE X l tl) (h : X.K = K := by rfl) : PI X tg l (iList K tl) := h ▸ pi_list hl
theorem kpe_fld {e : Expr} {f : Str} {pos : Pos} {ta : TE} (he : PE X e ta) (hb : attributeBase e f X.env (eval e X.env) = eval e X.env := by rfl) (h : X.K = K := by rfl) : PE X (.Attribute e f pos) (tFld K ta f) := h ▸ pe_fld he hb
end
/-- a comprehension without an if; with one -/
theorem yes_if {σ : St} {H : Hp} {A B : Hp → Prop} (h : A H) : tYes σ H (fun b H3 => if b = true then A H3 else B H3) := by
  show (if true = true then A H else B H)
  rw [if_pos rfl]
  exact h
theorem same_upd {H : Hp} {p : Addr} {o : HO} (h : H p = none) : Same H (upd H p o) := fun b x e => by
  rw [upd_ne (ne_of_none e h)]
  exact e
/-- all that was tracked is as it was, but for what stands at b -/
def SameB (b : Addr) (H H' : Hp) : Prop := ∀ a o, a ≠ b → H a = some o → H' a = some o
theorem SameB.refl (b : Addr) (H : Hp) : SameB b H H := fun _ _ _ h => h
theorem SameB.trans {b : Addr} {H H1 H2 : Hp} (x : SameB b H H1) (y : SameB b H1 H2) : SameB b H H2 := fun a o n h => y a o n (x a o n h)
theorem Same.b {b : Addr} {H H' : Hp} (h : Same H H') : SameB b H H' := fun a o _ e => h a o e
theorem SameB.upd {b : Addr} {H H' : Hp} {o : HO} (h : SameB b H H') : SameB b H (upd H' b o) := fun a u n e => by
  rw [upd_ne n]
  exact h a u n e
theorem SameB.new {b p : Addr} {H H' : Hp} {o : HO} (h : SameB b H H') (n : H' p = none) : SameB b H (L2.upd H' p o) := fun a u hn e => by
  have := h a u hn e
  rw [upd_ne (ne_of_none this n)]
  exact this
/-- an object that H does not know may change -/
theorem SameB.mut {b p : Addr} {H H' : Hp} {o : HO} (h : SameB b H H') (n : H p = none) : SameB b H (L2.upd H' p o) := fun a u hn e => by
  rw [upd_ne (ne_of_none e n)]
  exact h a u hn e
theorem SameB.free {b l : Addr} {H H' : Hp} (e : SameB b H H') (hb : l ≠ b) (h : H' l = none) : H l = none := by
  cases q : H l with
  | none => rfl
  | some o =>
    rw [e l o hb q] at h
    cases h
theorem SameB.seq {K : PySem.W.Frag} {b : Addr} {H H' : Hp} {a : Addr} {xs : List V} (e : SameB b H H') (n : a ≠ b) (h : SqL K H a xs) : SqL K H' a xs := by
  rcases h with (h | ⟨o, h⟩) | h
  · exact .inl (.inl (e _ _ n h))
  · exact .inl (.inr ⟨o, e _ _ n h⟩)
  · exact .inr h
/-- an error of the class at C with these fields is what E wants, whatever was made meanwhile -/
def Rais (E : XK) (H : Hp) (C : Addr) (fs : List (Str × V)) : Prop := ∀ H' d, Same H H' → H d = none → H' d = some (.xd fs) → E (.ref C) (some d) H'
theorem Rais.go {E : XK} {H H' : Hp} {C d : Addr} {fs : List (Str × V)} (h : Rais E H C fs) (sm : Same H H') (n : H' d = none) : E (.ref C) (some d) (upd H' d (.xd fs)) :=
  h _ d (sm.trans (same_upd n)) (sm.free n) upd_same
/-- the law's box of draws stands at b, its script at l -/
structure Box (H : Hp) (b l : Addr) : Prop where
  ex : ∃ (ns : List Int) (i c r : Int), H b = some (.lst [.int i, .int c, .int r, .ref l]) ∧ H l = some (.lst (ns.map V.int)) ∧ 0 ≤ i ∧ l ≠ b
theorem Box.keep {H H' : Hp} {b l : Addr} (h : Box H b l) (e : Same H H') : Box H' b l := by
  obtain ⟨ns, i, c, r, h1, h2, h3, h4⟩ := h.ex
  exact ⟨ns, i, c, r, e _ _ h1, e _ _ h2, h3, h4⟩
theorem Box.neb {H : Hp} {b l p : Addr} (h : Box H b l) (n : H p = none) : p ≠ b := fun e => by
  obtain ⟨ns, i, c, r, h1, h2, h3, h4⟩ := h.ex
  rw [e, h1] at n
  cases n
theorem Box.nel {H : Hp} {b l p : Addr} (h : Box H b l) (n : H p = none) : p ≠ l := fun e => by
  obtain ⟨ns, i, c, r, h1, h2, h3, h4⟩ := h.ex
  rw [e, h2] at n
  cases n
theorem Box.mut {H : Hp} {b l p : Addr} {o : HO} (h : Box H b l) (nb : p ≠ b) (nl : p ≠ l) : Box (upd H p o) b l := by
  obtain ⟨ns, i, c, r, h1, h2, h3, h4⟩ := h.ex
  exact ⟨ns, i, c, r, by rw [upd_ne (Ne.symm nb)]; exact h1, by rw [upd_ne (Ne.symm nl)]; exact h2, h3, h4⟩
/-- from H to H' only draws were taken and new objects made -/
structure Bx (b l : Addr) (H H' : Hp) : Prop where
  sm : SameB b H H'
  b0 : Box H b l
  b1 : Box H' b l
theorem Bx.trans {b l : Addr} {H H1 H2 : Hp} (x : Bx b l H H1) (y : Bx b l H1 H2) : Bx b l H H2 := ⟨x.sm.trans y.sm, x.b0, y.b1⟩
theorem Bx.same {b l : Addr} {H H1 H2 : Hp} (x : Bx b l H H1) (y : Same H1 H2) : Bx b l H H2 := ⟨x.sm.trans y.b, x.b0, x.b1.keep y⟩
theorem Bx.new {b l p : Addr} {H H' : Hp} {o : HO} (x : Bx b l H H') (n : H' p = none) : Bx b l H (upd H' p o) := x.same (same_upd n)
theorem Bx.mut {b l p : Addr} {H H' : Hp} {o : HO} (x : Bx b l H H') (n : H p = none) : Bx b l H (upd H' p o) := ⟨x.sm.mut n, x.b0, x.b1.mut (x.b0.neb n) (x.b0.nel n)⟩
theorem Bx.free {b l p : Addr} {H H' : Hp} (x : Bx b l H H') (n : H' p = none) : H p = none := x.sm.free (x.b1.neb n) n
theorem Bx.at {b l a : Addr} {H H' : Hp} {o : HO} (x : Bx b l H H') (h : H a = some o) (n : a ≠ b) : H' a = some o := x.sm a o n h
theorem Bx.seq {K : PySem.W.Frag} {b l : Addr} {H H' : Hp} {a : Addr} {xs : List V} (x : Bx b l H H') (n : a ≠ b) (h : SqL K H a xs) : SqL K H' a xs := x.sm.seq n h
/-- a text of ASCII signs -/
def Asc (z : Str) : Prop := ∀ c ∈ z.cps.toList, c < 128
theorem Asc.ok {z : Str} (h : Asc z) : PyData.strOk z = true := by
  unfold PyData.strOk
  rw [← Array.all_toList, List.all_eq_true]
  intro c hc
  have := h c hc
  exact decide_eq_true (by omega)
theorem Asc.app {x y : Str} (hx : Asc x) (hy : Asc y) : Asc (x ++ y) := by
  intro c hc
  rw [Str.cps_append, Array.toList_append] at hc
  rcases List.mem_append.mp hc with h | h
  · exact hx c h
  · exact hy c h
mutual
def nb : PyData → Bool
  | .none => true
  | .int _ => true
  | .str x => PyData.strOk x
  | .list xs => nbAll xs
  | .tuple xs => nbAll xs
  | .bool _ => false
  | .dict _ => false
def nbAll : List PyData → Bool
  | [] => true
  | x :: xs => nb x && nbAll xs
end
mutual
theorem lay_nb : ∀ d : PyData, nb d = true → PyData.canLay0 d = true
  | .none, _ => by simp only [PyData.canLay0]
  | .int _, _ => by simp only [PyData.canLay0]
  | .str x, h => by simp only [nb] at h; simp only [PyData.canLay0, h]
  | .list xs, h => by simp only [nb] at h; simp only [PyData.canLay0]; exact lay_nbAll xs h
  | .tuple xs, h => by simp only [nb] at h; simp only [PyData.canLay0]; exact lay_nbAll xs h
  | .bool _, h => by simp only [nb] at h; cases h
  | .dict _, h => by simp only [nb] at h; cases h
theorem lay_nbAll : ∀ ds : List PyData, nbAll ds = true → PyData.canLayAll0 ds = true
  | [], _ => by simp only [PyData.canLayAll0]
  | x :: xs, h => by
    simp only [nbAll, Bool.and_eq_true] at h
    simp only [PyData.canLayAll0, lay_nb x h.1, lay_nbAll xs h.2, Bool.and_self]
end
mutual
theorem eqv_nb : ∀ d e : PyData, nb d = true → nb e = true → (PyData.eqv d e = true ↔ d = e)
  | .none, e, _, he => by cases e <;> simp [PyData.eqv]
  | .int i, e, _, he => by cases e <;> simp [PyData.eqv, nb] at he ⊢
  | .str x, e, _, he => by cases e <;> simp [PyData.eqv]
  | .list xs, e, hd, he => by
    cases e with
    | list ys =>
      simp only [nb] at hd he
      simp only [PyData.eqv, eqv_nbAll xs ys hd he, PyData.list.injEq]
    | _ => simp [PyData.eqv]
  | .tuple xs, e, hd, he => by
    cases e with
    | tuple ys =>
      simp only [nb] at hd he
      simp only [PyData.eqv, eqv_nbAll xs ys hd he, PyData.tuple.injEq]
    | _ => simp [PyData.eqv]
  | .bool _, _, h, _ => by simp only [nb] at h; cases h
  | .dict _, _, h, _ => by simp only [nb] at h; cases h
theorem eqv_nbAll : ∀ ds es : List PyData, nbAll ds = true → nbAll es = true → (PyData.eqvAll ds es = true ↔ ds = es)
  | [], [], _, _ => by simp [PyData.eqvAll]
  | [], _ :: _, _, _ => by simp [PyData.eqvAll]
  | _ :: _, [], _, _ => by simp [PyData.eqvAll]
  | x :: xs, y :: ys, hd, he => by
    simp only [nbAll, Bool.and_eq_true] at hd he
    simp only [PyData.eqvAll, Bool.and_eq_true, eqv_nb x y hd.1 he.1, eqv_nbAll xs ys hd.2 he.2, List.cons.injEq]
end
theorem depthAll_le {n : Nat} : ∀ {ds : List PyData}, (∀ d ∈ ds, d.depth ≤ n) → PyData.depthAll ds ≤ n
  | [], _ => by simp [PyData.depthAll]
  | d :: ds, h => by
    simp only [PyData.depthAll]
    exact Nat.max_le.mpr ⟨h d (List.mem_cons_self ..), depthAll_le fun x hx => h x (List.mem_cons_of_mem _ hx)⟩
theorem shaped_of {d : PyData} (h : nb d = true) (hd : d.depth ≤ 64) : SeqAt.shaped d = true := by
  unfold SeqAt.shaped
  rw [lay_nb d h, decide_eq_true hd]
  rfl
theorem inV_strs (n : Str) (ws : List Str) : inV (.str n) (ws.map V.str) = decide (n ∈ ws) := by
  unfold inV
  rw [Bool.eq_iff_iff, List.any_eq_true, decide_eq_true_iff]
  constructor
  · rintro ⟨y, hy, e⟩
    obtain ⟨z, hz, rfl⟩ := List.mem_map.mp hy
    have e : z = n := by simpa [eqV] using e
    exact e ▸ hz
  · intro h
    exact ⟨.str n, List.mem_map_of_mem h, by simp [eqV]⟩
theorem flat_strsB (ws : List Str) : (ws.map V.str).all flatV = true := by
  rw [List.all_eq_true]
  intro y hy
  obtain ⟨z, hz, rfl⟩ := List.mem_map.mp hy
  rfl
/-- a list or a tuple -/
def Sq (K : PySem.W.Frag) (H : Hp) (a : Addr) (xs : List V) : Prop := SqL K H a xs ∨ SqT K H a xs
theorem Same.seqT {K : PySem.W.Frag} {H H' : Hp} {a : Addr} {xs : List V} (e : Same H H') (h : SqT K H a xs) : SqT K H' a xs := by
  rcases h with (h | ⟨o, h⟩) | h
  · exact .inl (.inl (e _ _ h))
  · exact .inl (.inr ⟨o, e _ _ h⟩)
  · exact .inr h
theorem Same.sq {K : PySem.W.Frag} {H H' : Hp} {a : Addr} {xs : List V} (e : Same H H') (h : Sq K H a xs) : Sq K H' a xs := h.elim (fun h => .inl (e.seq h)) (fun h => .inr (e.seqT h))
theorem take_more {α : Type} {l : List α} {i : Nat} {x : α} (h : l[i]? = some x) : l.take (i + 1) = l.take i ++ [x] := by
  rw [List.take_add_one, h]
  rfl
section
variable {K : PySem.W.Frag} {H H' : Hp}
mutual
theorem Dp.keep (e : Same H H') : ∀ (d : PyData) (v : V), Dp K H v d → Dp K H' v d
  | .none, _, h => by cases h; exact .non
  | .bool _, _, h => by cases h; exact .bl _
  | .int _, _, h => by cases h; exact .int _
  | .str _, _, h => by cases h; exact .str _
  | .list ds, _, h => by
    cases h with
    | lst hs ha => exact .lst (e.seq hs) (DpAll.keep e ds _ ha)
  | .tuple ds, _, h => by
    cases h with
    | tup hs ha => exact .tup (e.seqT hs) (DpAll.keep e ds _ ha)
  | .dict _, _, h => by cases h
theorem DpAll.keep (e : Same H H') : ∀ (ds : List PyData) (vs : List V), DpAll K H vs ds → DpAll K H' vs ds
  | [], _, h => by cases h; exact .nil
  | d :: ds, _, h => by
    cases h with
    | cons h1 h2 => exact .cons (Dp.keep e d _ h1) (DpAll.keep e ds _ h2)
end
end
def LETTERS : Str := "abcdefghijklmnopqrstuvwxyz"
def DIGITS : Str := "0123456789"
def okc (c : Nat) : Bool := decide (c ∈ LETTERS.cps.toList) || decide (c ∈ DIGITS.cps.toList)
def wd (l : List Nat) : Bool := decide (1 ≤ l.length ∧ l.length ≤ 12) && (decide (l.headD 0 ∈ LETTERS.cps.toList) && l.all okc)
theorem wd_inv {l : List Nat} (h : wd l = true) : ∃ c r, l = c :: r ∧ c ∈ LETTERS.cps.toList ∧ (∀ d ∈ l, okc d = true) ∧ l.length ≤ 12 := by
  unfold wd at h
  rw [Bool.and_eq_true, Bool.and_eq_true] at h
  obtain ⟨h1, h2, h3⟩ := h
  have h1 := of_decide_eq_true h1
  have h2 := of_decide_eq_true h2
  cases l with
  | nil => exact absurd h1.1 (by decide)
  | cons c r => exact ⟨c, r, rfl, h2, List.all_eq_true.mp h3, h1.2⟩
theorem okc_lt {c : Nat} (h : okc c = true) : c < 128 := by
  unfold okc at h
  rw [Bool.or_eq_true, decide_eq_true_iff, decide_eq_true_iff] at h
  rcases h with h | h
  · exact of_decide_eq_true (List.all_eq_true.mp (show LETTERS.cps.toList.all (fun c => decide (c < 128)) = true by decide) c h)
  · exact of_decide_eq_true (List.all_eq_true.mp (show DIGITS.cps.toList.all (fun c => decide (c < 128)) = true by decide) c h)
/-- a text that is a word -/
def Wd (z : Str) : Prop := wd z.cps.toList = true
theorem Wd.asc {z : Str} (h : Wd z) : Asc z := fun c hc => by
  obtain ⟨_, _, _, _, ho, _⟩ := wd_inv h
  exact okc_lt (ho c hc)
theorem Wd.len {z : Str} (h : Wd z) : z.length ≤ 12 := by
  obtain ⟨_, _, _, _, _, hl⟩ := wd_inv h
  exact hl
section
variable {P : Program} {K : PySem.W.Frag} {h : Heap} {mg : Str → Option Value}
theorem src_mk {x : Str} {st : Stmt} {ps : List Str} {f : Addr} {oc : Value} {od an : Option Addr} {osl : Array (Option Value)} {kV doc pm cdv ct : Value} (X : K.In h) (G : h.Ns mainGlobals mg)
    (a : PySem.W.nsIn K mainGlobals x = some (some (.ref f))) (l : K.lookup f = some ⟨oc, od, .func (PySem.W.fnOf x x (defArgs st) (defBody st) (defScope st) .none kV doc pm an cdv ct), osl⟩)
    (c : PySem.W.codeIn K cdv x = true) (k : PySem.W.keepIn K (.ref f) = true)
    (hb : ∀ (kV doc pm : Value) (an : Option Addr) (cdv ct : Value) (us : List Value), us.length = ps.length → bindArgs (PySem.W.fnOf x x (defArgs st) (defBody st) (defScope st) .none kV doc pm an cdv ct) ⟨us, []⟩ = pure (ps.zip us)) : Src K mg x st ps :=
  ⟨f, _, PySem_Fun_a (fun_mk l c k), PySem.W.mg_of X G a, (fun_mk (st := st) l c k).binds hb⟩
theorem glo_int {x : Str} {i : Int} {t : Tok} (X : K.In h) (G : h.Ns mainGlobals mg) (a : PySem.W.nsIn K mainGlobals x = some (some (.int i t))) : Glo mg x (.int i) := ⟨_, PySem.W.mg_of X G a, t, rfl⟩
theorem glo_ref {x : Str} {a : Addr} (X : K.In h) (G : h.Ns mainGlobals mg) (e : PySem.W.nsIn K mainGlobals x = some (some (.ref a))) : Glo mg x (.ref a) := ⟨_, PySem.W.mg_of X G e, rfl⟩
theorem err_mk {cn qual : Str} {tm : Bool} {C fI : Addr} {fs : List Str} {st : Stmt} {nm q : Str} {N : Addr} {bs bm : List Value} {sn : List Str} {sub : List Value} {ab : Bool} {col : Option Bool} {dd : Option Addr} {m0 m1 m2 m3 m5 : Option Value}
    {oc : Value} {od an : Option Addr} {osl : Array (Option Value)} {kV doc pm ct : Value} {cda cc : Addr} {ccl cl : Value} {cdd cld : Option Addr} {ccs csl : Array (Option Value)} {vs : Array Value} {file : Str} {tf : Tok} {msg : Expr} {p1 p2 p3 p4 p5 : Pos} {fp : List FP} {ar : Arg}
    (X : K.In h) (G : h.Ns mainGlobals mg) (aC : PySem.W.nsIn K mainGlobals cn = some (some (.ref C))) (aS : PySem.W.nsIn K mainGlobals "super" = some none)
    (xL : K.lookup C = some (excClassObj nm q C N bs bm true sn sub ab col dd m0 m1 m2 m3 m5 "ValueError.__new__")) (hbm : PySem.HandSPX.refsVE bm = true)
    (sa : PySem.W.findIn K (.ref C) "__setattr__" = some (some (.builtin "object.__setattr__"))) (ga : PySem.W.findIn K (.ref C) "__getattribute__" = some (some (.builtin "BaseException.__getattribute__"))) (gg : PySem.W.findIn K (.ref C) "__getattr__" = some none)
    (noN : ∀ f ∈ fs, PySem.W.findIn K (.ref C) f = some none)
    (iC : PySem.W.findIn K (.ref C) "__init__" = some (some (.ref fI))) (tI : PySem.W.typeIn K (.ref fI) = some (.type "function")) (kC : PySem.W.keepIn K (.ref C) = true)
    (exC : PySem.W.subIn K (.ref C) (.type "BaseException") = some true) (veC : PySem.W.subIn K (.ref C) (.type "ValueError") = some true) (tyC : PySem.W.typeIn K (.ref C) = some (.type "type")) (hdC : PySem.W.hasDictIn K C = true)
    (sup : PySem.W.ks_superIn K C C "__init__" = some (some (.builtin "ValueError.__init__"))) (mro : PySem.W.mroIn K C (.ref C) = some true) (su : PySem.W.subIn K (.ref C) (.ref C) = some true)
    (ca : PySem.W.findIn K (.ref C) "__class__" = some (some (.builtin "object.__class__"))) (cg : PySem.W.specialIn K (.builtin "object.__class__") "__get__" = some (some (.builtin "getset_descriptor.__get__"))) (ct' : PySem.W.takesIn K (.builtin "object.__class__") = some true)
    (mo : PySem.W.mroIn K C (.type "object") = some true) (opq : PySem.W.nsIn K cStatics "thirdparty.any" = some none)
    (top : (P.main.scope.names.lookup ("super" : Str)).isSome = false)
    (l : K.lookup fI = some ⟨oc, od, .func (PySem.W.ksFn "__init__" qual (defArgs st) (defBody st) (defScope st) .none kV doc pm an (.ref cda) ct cc), osl⟩) (c : PySem.W.codeIn K (.ref cda) qual = true)
    (lc : K.lookup cda = some ⟨ccl, cdd, .fields vs, ccs⟩) (hv2 : vs[2]? = some (.str file tf)) (hfile : ((P.main.file : Str) == file) = true) (lcc : K.lookup cc = some ⟨cl, cld, .cell (some (.ref C)), csl⟩)
    (hbody : defBody st = stS msg p1 p2 p3 p4 p5 :: fp.map stF) (har : ((defArgs st).posonlyargs ++ (defArgs st).args).head? = some ar) (hself : ar.arg = "self") (hfp : fp.map (·.1) = fs) (hpos : (p3.endLine == p4.line) = true)
    (h1 : (defScope st).names.lookup ("super" : Str) = some .globalImplicit) (h2 : (defScope st).names.lookup ("__class__" : Str) = some .free) (h3 : (defScope st).names.lookup ("self" : Str) = some .local) (h4 : ∀ f ∈ fs, (defScope st).names.lookup f = some .local) (h5 : ∀ f ∈ fs, (f == ("__debug__" : Str)) = false) (h6 : ∀ y ∈ (defScope st).names, y.2 ≠ .cell)
    (h7 : (defScope st).kind = .function) (h8 : (defScope st).isGenerator = false) (h9 : (defScope st).isCoroutine = false)
    (hbind : ∀ (kV doc pm : Value) (an : Option Addr) (cda : Addr) (ct : Value) (cc : Addr) (s : Shared) (x : Value) (us : List Value), us.length = fs.length → BindsTo s (PySem.W.ksFn "__init__" qual (defArgs st) (defBody st) (defScope st) .none kV doc pm an (.ref cda) ct cc) ⟨x :: us, []⟩ (("self", x) :: fs.zip us))
    (hlook : ∀ (x : Value) (us : List Value), us.length = fs.length → ((("self" : Str), x) :: fs.zip us).reverse.lookup ("self" : Str) = some x ∧ Paired (fun f u => ((("self" : Str), x) :: fs.zip us).reverse.lookup f = some u) fs us)
    (hmsg : (tm = false ∧ ∃ (z : Str) (i : Nat) (p : Pos), msg = .Constant (.str z) i p) ∨ tm = true ∧ ∃ (z f : Str) (i : Nat) (p p' p'' : Pos), msg = .BinOp (.Constant (.str z) i p) .Add (.Name f p') p'' ∧ z.length ≤ 100 ∧ fs.head? = some f) :
    ErrTxt P K mg tm cn C fI fs where
  cls := ⟨nm, q, N, bs, bm, sn, sub, ab, col, dd, m0, m1, m2, m3, m5, xL, hbm⟩
  sa := sa
  noN := noN
  gC := PySem.W.mg_of X G aC
  ga := ga
  gg := gg
  iC := iC
  tC := tI
  kC := kC
  exC := exC
  veC := veC
  tyC := tyC
  hdC := hdC
  sup := sup
  mro := mro
  sub := su
  ca := ca
  cg := cg
  ct := ct'
  mo := mo
  opq := opq
  msup := PySem.W.mg_none_of X G aS
  top := top
  fn := by
    rw [hbody] at l
    refine ⟨oc, od, qual, defArgs st, defScope st, msg, p1, p2, p3, p4, p5, fp, .none, kV, doc, pm, an, cda, cc, ct, osl, ar, ccl, cl, cdd, cld, ccs, csl, vs, file, tf, l, c, har, hself, lc, hv2, hfile, lcc, hfp, hpos, ⟨h1, h2, h3, h4, h5, h6⟩, ⟨h7, h8, h9⟩, ?_, hlook, hmsg⟩
    intro s x us hl
    have := hbind kV doc pm an cda ct cc s x us hl
    rw [hbody] at this
    exact this
end
end L2
set_option Elab.async false
set_option linter.all false
set_option maxRecDepth 100000
set_option maxHeartbeats 4000000
namespace L2
open PySem PySem.Spec PyProof.Rows PySem.HErr
/-- a method of the text stands in its class -/
structure SrcM (K : PySem.W.Frag) (C : Addr) (m qual : Str) (st : Stmt) (ps : List Str) : Prop where
  ex : ∃ f fd, FunA K m qual st f fd ∧ Meth K C m f ∧ Binds K fd ps []
/-- the method m of the class at C keeps the promise sp -/
structure DefM (P : Program) (w : World) (K : PySem.W.Frag) (mg : Str → Option Value) (base : Heap) (CX : CXT) (k : Nat) (C : Addr) (m : Str) (ps : List Str) (sp : Sp) : Prop where
  ex : ∃ f fd, LkF K f fd ∧ Meth K C m f ∧ Binds K fd ps [] ∧ FnOk P w K mg base CX k f fd ps sp
/-- __init__ of the class at C stands in it; ds: the values of defaults that are left out -/
structure SrcI (K : PySem.W.Frag) (C : Addr) (qual : Str) (st : Stmt) (ps : List Str) : Prop where
  ex : ∃ f fd, FunA K "__init__" qual st f fd ∧ Mk K C f ∧ Binds K fd ps []
structure DefI (P : Program) (w : World) (K : PySem.W.Frag) (mg : Str → Option Value) (base : Heap) (CX : CXT) (k : Nat) (C : Addr) (ps : List Str) (sp : Sp) : Prop where
  ex : ∃ f fd, LkF K f fd ∧ Mk K C f ∧ Binds K fd ps [] ∧ FnOk P w K mg base CX k f fd ps sp
section
variable {P : Program} {w : World} {K : PySem.W.Frag} {mg : Str → Option Value} {base : Heap} {CX : CXT} {m qual : Str} {C : Addr} {st : Stmt} {N ps : List Str} {k : Nat} {sp : Sp}
theorem DefM.mono {j : Nat} (D : DefM P w K mg base CX j C m ps sp) (h : j ≤ k) : DefM P w K mg base CX k C m ps sp := by
  obtain ⟨f, fd, hlk, h1, h2, h3⟩ := D.ex
  exact ⟨f, fd, hlk, h1, h2, h3.mono h⟩
theorem DefI.mono {j : Nat} (D : DefI P w K mg base CX j C ps sp) (h : j ≤ k) : DefI P w K mg base CX k C ps sp := by
  obtain ⟨f, fd, hlk, h1, h2, h3⟩ := D.ex
  exact ⟨f, fd, hlk, h1, h2, h3.mono h⟩
theorem SrcM.ok (F : SrcM K C m qual st ps) (S : FnScope N ps (defScope st)) (len : ∀ vs H Q E, sp vs H Q E → vs.length = ps.length)
    (hbody : ∀ (f : Addr) (cdv : Value) (A : Around) (outer : List Env) (s : Shared) (H : Hp) (vs : List V) (Q : VK) (E : XK), Room k (A.deeper (envOfC qual (defScope st) s.heap.objs.size f cdv)) → sp vs H Q E →
      ∃ t, PSs (cxOf CX0 P w K mg base N qual (defScope st) f cdv A outer s H E).nox (defBody st) t ∧ t { nx := fun _ H' => Q .non H', rt := Q } (start N vs) H) : DefM P w K mg base CX0 (k + 1) C m ps sp := by
  obtain ⟨f, fd, h1, h2, h3⟩ := F.ex
  exact ⟨f, fd, h1.lk, h2, h3, h1.ok S len (hbody f)⟩
theorem SrcM.okX (F : SrcM K C m qual st ps) (S : FnScope N ps (defScope st)) (len : ∀ vs H Q E, sp vs H Q E → vs.length = ps.length)
    (hbody : ∀ (f : Addr) (cdv : Value) (A : Around) (outer : List Env) (s : Shared) (H : Hp) (vs : List V) (Q : VK) (E : XK), Room k (A.deeper (envOfC qual (defScope st) s.heap.objs.size f cdv)) → sp vs H Q E →
      ∃ t, PSs (cxOf (L2.CX P w) P w K mg base N qual (defScope st) f cdv A outer s H E) (defBody st) t ∧ t { nx := fun _ H' => Q .non H', rt := Q } (start N vs) H) : DefM P w K mg base (L2.CX P w) (k + 1) C m ps sp := by
  obtain ⟨f, fd, h1, h2, h3⟩ := F.ex
  exact ⟨f, fd, h1.lk, h2, h3, h1.okX S len (hbody f)⟩
theorem SrcI.okX (F : SrcI K C qual st ps) (S : FnScope N ps (defScope st)) (len : ∀ vs H Q E, sp vs H Q E → vs.length = ps.length)
    (hbody : ∀ (f : Addr) (cdv : Value) (A : Around) (outer : List Env) (s : Shared) (H : Hp) (vs : List V) (Q : VK) (E : XK), Room k (A.deeper (envOfC qual (defScope st) s.heap.objs.size f cdv)) → sp vs H Q E →
      ∃ t, PSs (cxOf (L2.CX P w) P w K mg base N qual (defScope st) f cdv A outer s H E) (defBody st) t ∧ t { nx := fun _ H' => Q .non H', rt := Q } (start N vs) H) : DefI P w K mg base (L2.CX P w) (k + 1) C ps sp := by
  obtain ⟨f, fd, h1, h2, h3⟩ := F.ex
  exact ⟨f, fd, h1.lk, h2, h3, h1.okX S len (hbody f)⟩
theorem SrcI.ok (F : SrcI K C qual st ps) (S : FnScope N ps (defScope st)) (len : ∀ vs H Q E, sp vs H Q E → vs.length = ps.length)
    (hbody : ∀ (f : Addr) (cdv : Value) (A : Around) (outer : List Env) (s : Shared) (H : Hp) (vs : List V) (Q : VK) (E : XK), Room k (A.deeper (envOfC qual (defScope st) s.heap.objs.size f cdv)) → sp vs H Q E →
      ∃ t, PSs (cxOf CX0 P w K mg base N qual (defScope st) f cdv A outer s H E).nox (defBody st) t ∧ t { nx := fun _ H' => Q .non H', rt := Q } (start N vs) H) : DefI P w K mg base CX0 (k + 1) C ps sp := by
  obtain ⟨f, fd, h1, h2, h3⟩ := F.ex
  exact ⟨f, fd, h1.lk, h2, h3, h1.ok S len (hbody f)⟩
end
theorem Passes.at {CX : CXT} {X : Cx} {E : XK} (h : Passes CX X E) (σ : St) : PassesAt CX X σ E := fun pins H s e s' I c => h pins σ H s e s' I c
/-- o.m(..) -/
def tMetD (C : Addr) (m : Str) (sp : Sp) (E : St → XK) (ta : TE) (t : TA) : TE := fun σ H Q => ta σ H fun x H1 => ∃ a dx fs, x = .ref a ∧ H1 a = some (.ins C dx fs) ∧ fs.lookup m = none ∧ t σ H1 fun vs H2 => sp (x :: vs) H2 Q (E σ)
/-- C(..) -/
def tMkD (C : Addr) (sp : Sp) (E : St → XK) (t : TA) : TE := fun σ H Q => t σ H fun vs H1 => ∀ x dx, H1 x = none → H1 dx = none → dx ≠ x →
  sp (.ref x :: vs) (upd (upd H1 dx (.own x)) x (.ins C dx [])) (fun v H2 => v = .non ∧ Q (.ref x) H2) (E σ)
section
variable {X : Cx} {CX : CXT} {k : Nat} {C : Addr} {ps : List Str} {sp : Sp} {E : St → XK} {x m : Str} {p pos apos : Pos} {e o : Expr} {es : List Expr} {ta : TE} {t : TA}
theorem pe_mkD (D : DefI X.prog X.w X.K X.mg X.base CX k C ps sp) (hm : X.mg x = some (.ref C)) (hr : Room (k + 1) X.A) (hx : ∀ σ, PassesAt CX X σ (E σ)) (ha : PA X (e :: es) t) (hg : Gl X x := by rfl)
    (hdb : (x == ("__debug__" : Str)) = false := by decide) (he : starEach (e :: es) X.env = (false, eval e X.env) :: starEach es X.env := by rfl) (hpl : (backTo pos (starEach es X.env)).any (·.1) = false := by rfl) :
    PE X (.Call (.Name x p) (e :: es) [] pos) (tMkD C sp E t) := by
  obtain ⟨f, fd, hlk, M, hb, F⟩ := D.ex
  refine ⟨fun pins s0 σ H0 Q I0 h0 => ?_⟩
  refine wpAny_Call_Name_kw (ld_glob I0 hg hm ?_ hdb)
  refine PySem.W.callWith_K (h₀ := X.base) I0.ok.mod.kin M.kp (thn (ha.run pos pins s0 σ H0 _ I0 h0) fun us s ⟨vs, H, I, r, h⟩ => ⟨I.kIn, ?_⟩) he hpl
  show wpAny _ _ (call (.ref C) us) _ _ _
  have hq := h (s.heap.objs.size + 1) s.heap.objs.size (I.hok.fresh (Nat.le_succ _)) (I.hok.fresh (Nat.le_refl _)) (Nat.ne_of_lt (Nat.lt_succ_self _))
  have I2 := Inv.made (C := C) I
  have r2 : Vals (V.ref (s.heap.objs.size + 1) :: vs) (Value.ref (s.heap.objs.size + 1) :: us) := .cons rfl r
  have hl : ((Value.ref (s.heap.objs.size + 1) :: us) ++ []).length = ps.length := by
    have e := r2.length
    rw [F.len _ _ _ _ hq] at e
    rw [List.append_nil]
    exact e.symm
  have hbb := hb _ (Value.ref (s.heap.objs.size + 1) :: us) I2.kIn hl
  rw [List.append_nil] at hbb
  refine wpAny_call (make_map (f := f) I.kIn M.makes M.init (beq_iff_eq.mp M.fn) (codeAny_mono (F.run _ X.stack _ _ ⟨Value.ref (s.heap.objs.size + 1) :: us, []⟩ (Value.ref (s.heap.objs.size + 1) :: us) _ _ (E σ) (hr.make C us [])
    (I2.env0.make C us []) hbb r2 hq) fun r s' hq' => ?_))
  cases r with
  | error e => exact hx σ pins _ _ e s' I2 hq'
  | ok fl =>
    cases fl with
    | ret u =>
      obtain ⟨v, H', I3, rv, ev, q3⟩ := I2.after hq'
      subst ev
      exact ⟨rv, ⟨V.ref (s.heap.objs.size + 1), H', I3, rfl, q3⟩⟩
    | next => exact False.elim hq'
    | brk => exact False.elim hq'
    | cont => exact False.elim hq'
theorem kps_fld {K : PySem.W.Frag} {f : Str} {value : Expr} {pos' : Pos} {tv : TE} (ha : PE X o ta) (hv : PE X value tv) (hs : swapsWith value (some (.Attribute o f pos')) pos.line X.env = pure false := by rfl) (hK : X.K = K := by rfl) :
    PS X (.Assign [.Attribute o f pos'] value pos) (sFld K ta tv f) := hK ▸ ps_fld ha hv hs
theorem srcM_mk {K : PySem.W.Frag} {qual : Str} {st : Stmt} {f : Addr} {oc : Value} {od an : Option Addr} {osl : Array (Option Value)} {kV doc pm cdv ct : Value}
    (a : PySem.W.findIn K (.ref C) m = some (some (.ref f))) (i : PySem.W.isFn K (.ref f) = true) (l : K.lookup f = some ⟨oc, od, .func (PySem.W.fnOf m qual (defArgs st) (defBody st) (defScope st) .none kV doc pm an cdv ct), osl⟩)
    (c : PySem.W.codeIn K cdv qual = true) (k : PySem.W.keepIn K (.ref f) = true)
    (hb : ∀ (kV doc pm : Value) (an : Option Addr) (cdv ct : Value) (us : List Value), us.length = ps.length → bindArgs (PySem.W.fnOf m qual (defArgs st) (defBody st) (defScope st) .none kV doc pm an cdv ct) ⟨us, []⟩ = pure (ps.zip us)) : SrcM K C m qual st ps :=
  ⟨f, _, PySem_Fun_a (fun_mk l c k), ⟨a, i, k⟩, (fun_mk (st := st) l c k).binds hb⟩
end
end L2
set_option Elab.async false
set_option linter.all false
set_option maxRecDepth 100000
set_option maxHeartbeats 4000000
namespace L2
open PySem PySem.Spec PyProof.Rows PySem.HErr
/-- an error of a plan -/
inductive PErr where
  | tooMany (kind : Str) (limit : Int)
  | badWord (w : Str)
  | double (n : Str)
  | badNumber (n : Int)
  | empty (n : Str)
  | unknown (n : Str)
abbrev SRow := Str × List Str × List Str
/-- names in the order of the places -/
def inOrd (places ns : List Str) : List Str := places.filter fun p => decide (p ∈ ns)
/-- a plan -/
structure PlanD where
  places : List Str
  begin : List Int
  steps : List SRow
def PlanD.names (d : PlanD) : List Str := d.steps.map (·.1)
/-- a dict from words to tuples of words -/
def TabAt (H : Hp) (kvs : List (Key × V)) (rows : List (Str × List Str)) : Prop := Paired (fun (kv : Key × V) r => kv.1 = Sum.inr r.1 ∧ ∃ t, kv.2 = .ref t ∧ H t = some (.tup (r.2.map V.str))) kvs rows
/-- a tuple whose place is known to be bare -/
def TupK (F : Hp) (a : Addr) (vs : List V) : Prop := ∃ o, F a = some (.frz o (.tup vs)) ∧ o.cls = .type "tuple" ∧ o.dict = none
theorem TupK.mono {F F' : Hp} {a : Addr} {vs : List V} (e : Same F F') (h : TupK F a vs) : TupK F' a vs := let ⟨o, h, q⟩ := h; ⟨o, e _ _ h, q⟩
def TupX (n : Bool) (F : Hp) (a : Addr) (vs : List V) : Prop := (n = true ∧ F a = some (.tup vs)) ∨ (n = false ∧ TupK F a vs)
theorem TupX.mono {n : Bool} {F F' : Hp} {a : Addr} {vs : List V} (e : Same F F') (h : TupX n F a vs) : TupX n F' a vs := h.imp (fun ⟨h0, h⟩ => ⟨h0, e _ _ h⟩) fun ⟨h0, h⟩ => ⟨h0, h.mono e⟩
def TupB (n : Bool) (F : Hp) (a : Addr) (vs : List V) : Prop := F a = some (.tup vs) ∨ (n = false ∧ TupK F a vs)
theorem TupB.mono {n : Bool} {F F' : Hp} {a : Addr} {vs : List V} (e : Same F F') (h : TupB n F a vs) : TupB n F' a vs := h.imp (fun h => e _ _ h) fun ⟨h0, o, h, q⟩ => ⟨h0, o, e _ _ h, q⟩
/-- the plan d stands at x -/
structure PlanAt (H : Hp) (C x : Addr) (d : PlanD) : Prop where
  ex : ∃ (dx tp tb td tg ts : Addr) (kt kg : List (Key × V)), H x = some (.ins C dx [("places", .ref tp), ("begin", .ref tb), ("taken", .ref td), ("given", .ref tg), ("steps", .ref ts)]) ∧
    TupX d.places.isEmpty H tp (d.places.map V.str) ∧ H tb = some (.tup (d.begin.map V.int)) ∧ H td = some (.dK kt) ∧ H tg = some (.dK kg) ∧ TupB d.names.isEmpty H ts (d.names.map V.str) ∧
    TabAt H kt (d.steps.map fun s => (s.1, s.2.1)) ∧ TabAt H kg (d.steps.map fun s => (s.1, s.2.2))
theorem Paired.imp2 {α β : Type} {R S : α → β → Prop} (h : ∀ a b, R a b → S a b) : ∀ {l : List α} {m : List β}, Paired R l m → Paired S l m
  | _, _, .nil => .nil
  | _, _, .cons x y => .cons (h _ _ x) (Paired.imp2 h y)
theorem TabAt.keep {H H' : Hp} {kvs : List (Key × V)} {rows : List (Str × List Str)} (h : TabAt H kvs rows) (e : ∀ t l, H t = some (.tup l) → H' t = some (.tup l)) : TabAt H' kvs rows :=
  Paired.imp2 (fun _ _ ⟨h1, t, h2, h3⟩ => ⟨h1, t, h2, e t _ h3⟩) h
theorem PlanAt.keep {H H' : Hp} {C x : Addr} {d : PlanD} (h : PlanAt H C x d) (e : Same H H') : PlanAt H' C x d := by
  obtain ⟨dx, tp, tb, td, tg, ts, kt, kg, h1, h2, h3, h4, h5, h6, h7, h8⟩ := h.ex
  exact ⟨dx, tp, tb, td, tg, ts, kt, kg, e _ _ h1, h2.mono e, e _ _ h3, e _ _ h4, e _ _ h5, h6.mono e, h7.keep fun _ _ => e _ _, h8.keep fun _ _ => e _ _⟩
/-- rows of places, rows of steps, in the heap -/
def PRows (H : Hp) (a : Addr) (prs : List (Str × Int)) : Prop := ∃ ts : List Addr, H a = some (.lst (ts.map V.ref)) ∧ Paired (fun t (r : Str × Int) => H t = some (.tup [.str r.1, .int r.2])) ts prs
/-- a row of a step at t, its lists other than the one at a -/
def SRowIn (H : Hp) (a t : Addr) (r : SRow) : Prop := ∃ b c, H t = some (.tup [.str r.1, .ref b, .ref c]) ∧ H b = some (.lst (r.2.1.map V.str)) ∧ H c = some (.lst (r.2.2.map V.str)) ∧ b ≠ a ∧ c ≠ a
def SRows (H : Hp) (a : Addr) (srs : List SRow) : Prop := ∃ ts : List Addr, H a = some (.lst (ts.map V.ref)) ∧ Paired (SRowIn H a) ts srs
theorem PRows.keep {H H' : Hp} {a : Addr} {prs : List (Str × Int)} (h : PRows H a prs) (e : Same H H') : PRows H' a prs := by
  obtain ⟨ts, h1, h2⟩ := h
  exact ⟨ts, e _ _ h1, Paired.imp2 (fun _ _ h => e _ _ h) h2⟩
theorem SRows.keep {H H' : Hp} {a : Addr} {srs : List SRow} (h : SRows H a srs) (e : Same H H') : SRows H' a srs := by
  obtain ⟨ts, h1, h2⟩ := h
  exact ⟨ts, e _ _ h1, Paired.imp2 (fun _ _ ⟨b, c, x, y, z, u⟩ => ⟨b, c, e _ _ x, e _ _ y, e _ _ z, u⟩) h2⟩
theorem Paired.get {α β : Type} {R : α → β → Prop} : ∀ {l : List α} {m : List β} {i : Nat} {a : α}, Paired R l m → l[i]? = some a → ∃ b, m[i]? = some b ∧ R a b
  | _, _, _, _, .nil, h => by simp at h
  | _, _, 0, _, .cons x _, h => by cases h; exact ⟨_, rfl, x⟩
  | _, _, i + 1, _, .cons _ y, h => Paired.get (i := i) y h
theorem Paired.len {α β : Type} {R : α → β → Prop} : ∀ {l : List α} {m : List β}, Paired R l m → l.length = m.length
  | _, _, .nil => rfl
  | _, _, .cons _ y => by rw [List.length_cons, List.length_cons, Paired.len y]
theorem Paired.snoc {α β : Type} {R : α → β → Prop} {a : α} {b : β} (h : R a b) : ∀ {l : List α} {m : List β}, Paired R l m → Paired R (l ++ [a]) (m ++ [b])
  | _, _, .nil => .cons h .nil
  | _, _, .cons x y => .cons x (Paired.snoc h y)
/-- the classes of the errors of a plan -/
structure ECs where
  tooMany : Addr
  badWord : Addr
  double : Addr
  badNumber : Addr
  empty : Addr
  unknown : Addr
def PErr.cls (cs : ECs) : PErr → Addr
  | .tooMany _ _ => cs.tooMany
  | .badWord _ => cs.badWord
  | .double _ => cs.double
  | .badNumber _ => cs.badNumber
  | .empty _ => cs.empty
  | .unknown _ => cs.unknown
def PErr.fields : PErr → List (Str × V)
  | .tooMany k l => [("limit", .int l), ("kind", .str k)]
  | .badWord w => [("word", .str w)]
  | .double n => [("name", .str n)]
  | .badNumber n => [("number", .int n)]
  | .empty n => [("name", .str n)]
  | .unknown n => [("name", .str n)]
/-- the same, but the object at x may have changed -/
def RaisX (cs : ECs) (E : XK) (x : Addr) (H : Hp) (e : PErr) : Prop := ∀ H' d, SameB x H H' → H d = none → H' d = some (.xd e.fields) → E (.ref (e.cls cs)) (some d) H'
theorem RaisX.go {cs : ECs} {E : XK} {x d : Addr} {H H' : Hp} {e : PErr} (h : RaisX cs E x H e) (sm : SameB x H H') (n : H' d = none) (hx : ∃ o, H' x = some o) : E (.ref (e.cls cs)) (some d) (upd H' d (.xd e.fields)) := by
  have hd : d ≠ x := fun q => by
    obtain ⟨o, ho⟩ := hx
    rw [q, ho] at n
    cases n
  exact h _ d (fun a o ha e => by rw [upd_ne (ne_of_none (sm a o ha e) n)]; exact sm a o ha e) (sm.free hd n) upd_same
theorem tup_ne {b l : Addr} {H : Hp} {a : Addr} {xs : List V} (hb : Box H b l) (h : H a = some (.tup xs)) : a ≠ b := fun q => by
  obtain ⟨ns, i, c, r, hb, _⟩ := hb.ex
  rw [q, hb] at h
  cases h
end L2
set_option Elab.async false
set_option linter.all false
set_option maxRecDepth 100000
set_option maxHeartbeats 4000000
namespace L2
open PySem PySem.Spec PyProof.Rows PySem.HErr
theorem Same.mut {p : Addr} {H H' : Hp} {o : HO} (h : Same H H') (n : H p = none) : Same H (upd H' p o) := fun a u e => by
  rw [upd_ne (ne_of_none e n)]
  exact h a u e
theorem Bx.tup {b l : Addr} {H H' : Hp} {a : Addr} {xs : List V} (x : Bx b l H H') (h : H a = some (.tup xs)) : H' a = some (.tup xs) := x.at h (tup_ne x.b0 h)
theorem Paired.take {α β : Type} {R : α → β → Prop} : ∀ {l : List α} {m : List β} (i : Nat), Paired R l m → Paired R (l.take i) (m.take i)
  | _, _, 0, _ => .nil
  | _, _, _ + 1, .nil => .nil
  | _, _, i + 1, .cons x y => .cons x (Paired.take i y)
theorem Paired.drop {α β : Type} {R : α → β → Prop} : ∀ {l : List α} {m : List β} (i : Nat), Paired R l m → Paired R (l.drop i) (m.drop i)
  | _, _, 0, h => h
  | _, _, _ + 1, .nil => .nil
  | _, _, i + 1, .cons _ y => Paired.drop i y
theorem Paired.app {α β : Type} {R : α → β → Prop} : ∀ {l : List α} {m : List β} {l' : List α} {m' : List β}, Paired R l m → Paired R l' m' → Paired R (l ++ l') (m ++ m')
  | _, _, _, _, .nil, h => h
  | _, _, _, _, .cons x y, h => .cons x (Paired.app y h)
theorem Paired.get' {α β : Type} {R : α → β → Prop} : ∀ {l : List α} {m : List β} {i : Nat} {b : β}, Paired R l m → m[i]? = some b → ∃ a, l[i]? = some a ∧ R a b
  | _, _, _, _, .nil, h => by simp at h
  | _, _, 0, _, .cons x _, h => by cases h; exact ⟨_, rfl, x⟩
  | _, _, i + 1, _, .cons _ y, h => Paired.get' (i := i) y h
theorem drop_at {α : Type} {l : List α} {i : Nat} {n : α} (h : l[i]? = some n) : l.drop i = n :: l.drop (i + 1) := List.drop_eq_getElem?_toList_append.trans (by rw [h]; rfl)
theorem SRowIn.keep {H H' : Hp} {a t : Addr} {r : SRow} (h : SRowIn H a t r) (e : Same H H') : SRowIn H' a t r := by
  obtain ⟨b, c, x, y, z, u⟩ := h
  exact ⟨b, c, e _ _ x, e _ _ y, e _ _ z, u⟩
theorem Paired.same {H H' : Hp} {ts : List Addr} {prs : List (Str × Int)} (h : Paired (fun t (r : Str × Int) => H t = some (.tup [.str r.1, .int r.2])) ts prs) (e : Same H H') : Paired (fun t (r : Str × Int) => H' t = some (.tup [.str r.1, .int r.2])) ts prs := Paired.imp2 (fun _ _ h => e _ _ h) h
theorem nodup_snoc {α : Type} {l : List α} {a : α} (h : l.Nodup) (n : a ∉ l) : (l ++ [a]).Nodup := by
  rw [List.nodup_append]
  exact ⟨h, by simp, fun x hx y hy e => by rw [List.mem_singleton.mp hy] at e; rw [e] at hx; exact n hx⟩
end L2
set_option Elab.async false
set_option linter.all false
set_option maxRecDepth 100000
set_option maxHeartbeats 4000000
namespace L2
open PySem PySem.Spec PyProof.Rows PySem.HErr
end L2
set_option Elab.async false
set_option linter.all false
set_option maxRecDepth 100000
set_option maxHeartbeats 4000000
namespace L2
open PySem PySem.Spec PyProof.Rows PySem.HErr
/-- what a value is, in the frozen heap -/
structure Vp where
  p : Hp → V → Prop
  mono : ∀ {F F' : Hp} {v : V}, Same F F' → p F v → p F' v
/-- how a thing of Lean stands for a value -/
structure Rep (α : Type) where
  p : Hp → V → α → Prop
  mono : ∀ {F F' : Hp} {v : V} {x : α}, Same F F' → p F v x → p F' v x
def iz {α : Type} (r : Rep α) (x : α) : Vp := ⟨fun F v => r.p F v x, fun e h => r.mono e h⟩
def zAt (a : Addr) : Vp := ⟨fun _ v => v = .ref a, fun _ h => h⟩
def zNon : Vp := ⟨fun _ v => v = .non, fun _ h => h⟩
def zI : Rep Int := ⟨fun _ v x => v = .int x, fun _ h => h⟩
def zB : Rep Bool := ⟨fun _ v x => v = .bl x, fun _ h => h⟩
def zS : Rep Str := ⟨fun _ v x => v = .str x ∧ Asc x, fun _ h => h⟩
abbrev PVs {α : Type} (r : Rep α) (F : Hp) (vs : List V) (xs : List α) : Prop := Paired (fun v x => r.p F v x) vs xs
def zL {α : Type} (r : Rep α) : Rep (List α) := ⟨fun F v xs => ∃ a vs, v = .ref a ∧ F a = some (.lst vs) ∧ PVs r F vs xs, fun e ⟨a, vs, h1, h2, h3⟩ => ⟨a, vs, h1, e _ _ h2, Paired.imp2 (fun _ _ h => r.mono e h) h3⟩⟩
def isSD : PyData → Bool
  | .str _ => true
  | _ => false
def isSDs (ds : List PyData) : Bool := !ds.isEmpty && ds.all isSD
/-- which tuples stand at a place that holds nothing but the tuple (such may be keys of dicts); the place of another one may be known to be bare -/
class TNar (α : Type) where
  nar : List α → Bool
/-- all of them do -/
class TAll (α : Type) [TNar α] : Prop where
  all : ∀ xs : List α, TNar.nar xs = true
instance : TNar Int := ⟨fun _ => true⟩
instance : TAll Int := ⟨fun _ => rfl⟩
instance : TNar Str := ⟨fun xs => xs.isEmpty⟩
instance : TNar PyData := ⟨fun ds => !isSDs ds⟩
instance : TNar Bool := ⟨fun _ => true⟩
instance : TAll Bool := ⟨fun _ => rfl⟩
instance : TNar Unit := ⟨fun _ => true⟩
instance : TAll Unit := ⟨fun _ => rfl⟩
instance {α β : Type} : TNar (α × β) := ⟨fun _ => true⟩
instance {α β : Type} : TAll (α × β) := ⟨fun _ => rfl⟩
instance {α : Type} : TNar (List α) := ⟨fun _ => true⟩
instance {α : Type} : TAll (List α) := ⟨fun _ => rfl⟩
instance {α : Type} : TNar (Option α) := ⟨fun _ => true⟩
instance {α : Type} : TAll (Option α) := ⟨fun _ => rfl⟩
instance {α β : Type} : TNar (α ⊕ β) := ⟨fun _ => true⟩
instance {α β : Type} : TAll (α ⊕ β) := ⟨fun _ => rfl⟩
theorem TupX.tb {n : Bool} {F : Hp} {a : Addr} {vs : List V} (h : TupX n F a vs) : TupB n F a vs := h.imp (fun h => h.2) id
theorem TupB.rd {n : Bool} {F : Hp} {a : Addr} {vs : List V} (h : TupB n F a vs) : Rd F a (.tup vs) := h.elim .inl fun ⟨_, o, h, _⟩ => .inr ⟨o, h⟩
theorem TupB.nar {n : Bool} {F : Hp} {a : Addr} {vs : List V} (h : TupB n F a vs) (e : n = true) : F a = some (.tup vs) := h.elim id fun ⟨h0, _⟩ => by rw [e] at h0; cases h0
theorem TupB.sq {n : Bool} {K : PySem.W.Frag} {F H : Hp} {a : Addr} {vs : List V} (h : TupB n F a vs) (e : Same F H) : SqT K H a vs := .inl (h.mono e).rd
def zT {α : Type} [k : TNar α] (r : Rep α) : Rep (List α) := ⟨fun F v xs => ∃ a vs, v = .ref a ∧ TupB (k.nar xs) F a vs ∧ PVs r F vs xs, fun e ⟨a, vs, h1, h2, h3⟩ => ⟨a, vs, h1, h2.mono e, Paired.imp2 (fun _ _ h => r.mono e h) h3⟩⟩
def z2 {α β : Type} (r : Rep α) (s : Rep β) : Rep (α × β) := ⟨fun F v x => ∃ a u w, v = .ref a ∧ F a = some (.tup [u, w]) ∧ r.p F u x.1 ∧ s.p F w x.2, fun e ⟨a, u, w, h1, h2, h3, h4⟩ => ⟨a, u, w, h1, e _ _ h2, r.mono e h3, s.mono e h4⟩⟩
def z3 {α β γ : Type} (r : Rep α) (s : Rep β) (t : Rep γ) : Rep (α × β × γ) := ⟨fun F v x => ∃ a u w z, v = .ref a ∧ F a = some (.tup [u, w, z]) ∧ r.p F u x.1 ∧ s.p F w x.2.1 ∧ t.p F z x.2.2, fun e ⟨a, u, w, z, h1, h2, h3, h4, h5⟩ => ⟨a, u, w, z, h1, e _ _ h2, r.mono e h3, s.mono e h4, t.mono e h5⟩⟩
structure Cel where
  a : Addr
  own : Bool
  φ : Hp → HO → Prop
  mono : ∀ {F F' : Hp} {o : HO}, Same F F' → φ F o → φ F' o
  nt : ∀ {F : Hp} {o : HO} {vs : List V}, φ F o → o = .tup vs → False
/-- what F' may know beyond F: what is new, and tuples -/
def Nwr (F H : Hp) (a : Addr) (o : HO) : Prop := (∃ o', F a = some o') ∨ H a = none ∨ ∃ vs, o = .tup vs
def cL {α : Type} (a : Addr) (r : Rep α) (xs : List α) : Cel := ⟨a, true, fun F o => ∃ vs, o = .lst vs ∧ PVs r F vs xs, fun e ⟨vs, h1, h2⟩ => ⟨vs, h1, Paired.imp2 (fun _ _ h => r.mono e h) h2⟩, fun h e => by subst e; simp at h⟩
/-- the law's box at b, its script at l -/
def cBox (own : Bool) (b l : Addr) : Cel := ⟨b, own, fun F o => ∃ (ns : List Int) (i c r : Int), o = .lst [.int i, .int c, .int r, .ref l] ∧ F l = some (.lst (ns.map V.int)) ∧ 0 ≤ i, fun e ⟨ns, i, c, r, h1, h2, h3⟩ => ⟨ns, i, c, r, h1, e _ _ h2, h3⟩, fun h e => by subst e; simp at h⟩
/-- what stood at the beginning: F0 frozen, H0 all, B lent -/
structure Fr where
  F0 : Hp
  H0 : Hp
  B : List Addr
structure OkF (fr : Fr) (Θ : List Cel) (F H : Hp) : Prop where
  fh : Same F H
  f0 : Same fr.F0 F
  nw : ∀ a o, F a = some o → Nwr fr.F0 fr.H0 a o
  h0 : ∀ a o, a ∉ fr.B → fr.H0 a = some o → H a = some o
  al : ∀ a o, fr.H0 a = some o → ∃ o', H a = some o'
  nd : (Θ.map Cel.a).Nodup
  ce : ∀ c ∈ Θ, F c.a = none ∧ (∃ o, H c.a = some o ∧ c.φ F o) ∧ (if c.own = true then fr.H0 c.a = none else c.a ∈ fr.B)
section
variable {fr : Fr} {Θ : List Cel} {F F' H H' : Hp}
theorem OkF.h0n (k : OkF fr Θ F H) {p : Addr} (n : H p = none) : fr.H0 p = none := by
  cases q : fr.H0 p with
  | none => rfl
  | some o =>
    obtain ⟨o', h⟩ := k.al p o q
    rw [n] at h
    cases h
theorem OkF.new {p : Addr} {o : HO} (k : OkF fr Θ F H) (n : H p = none) : OkF fr Θ (upd F p o) (upd H p o) := by
  have nF : F p = none := k.fh.free n
  refine ⟨fun a u h => ?_, k.f0.trans (same_upd nF), fun a u h => ?_, fun a u hB h => ?_, fun a u h => ?_, k.nd, fun c hc => ?_⟩
  · by_cases e : a = p
    · subst e
      rw [upd_same] at h ⊢
      exact h
    · rw [upd_ne e] at h ⊢
      exact k.fh a u h
  · by_cases e : a = p
    · subst e
      exact .inr (.inl (k.h0n n))
    · rw [upd_ne e] at h
      exact k.nw a u h
  · have := k.h0 a u hB h
    rw [upd_ne (ne_of_none this n)]
    exact this
  · obtain ⟨o', h'⟩ := k.al a u h
    exact ⟨o', by rw [upd_ne (ne_of_none h' n)]; exact h'⟩
  · obtain ⟨h1, ⟨u, h2, h3⟩, h4⟩ := k.ce c hc
    have ne := ne_of_none h2 n
    exact ⟨by rw [upd_ne ne]; exact h1, ⟨u, by rw [upd_ne ne]; exact h2, c.mono (same_upd nF) h3⟩, h4⟩
theorem OkF.sameF {p : Addr} {o : HO} (k : OkF fr Θ F H) (n : H p = none) : Same F (upd F p o) := same_upd (k.fh.free n)
theorem OkF.mkOwn {c : Cel} {o : HO} (k : OkF fr Θ F H) (n : H c.a = none) (ho : c.own = true) (h : c.φ F o) : OkF fr (c :: Θ) F (upd H c.a o) := by
  refine ⟨k.fh.trans (same_upd n), k.f0, k.nw, fun a u hB h => ?_, fun a u h => ?_, ?_, fun d hd => ?_⟩
  · have := k.h0 a u hB h
    rw [upd_ne (ne_of_none this n)]
    exact this
  · obtain ⟨o', h'⟩ := k.al a u h
    exact ⟨o', by rw [upd_ne (ne_of_none h' n)]; exact h'⟩
  · rw [List.map_cons, List.nodup_cons]
    refine ⟨fun hm => ?_, k.nd⟩
    obtain ⟨d, hd, e⟩ := List.mem_map.mp hm
    obtain ⟨_, ⟨u, h2, _⟩, _⟩ := k.ce d hd
    rw [e, n] at h2
    cases h2
  · rcases List.mem_cons.mp hd with rfl | hd
    · exact ⟨k.fh.free n, ⟨o, upd_same, h⟩, by rw [if_pos ho]; exact k.h0n n⟩
    · obtain ⟨h1, ⟨u, h2, h3⟩, h4⟩ := k.ce d hd
      exact ⟨h1, ⟨u, by rw [upd_ne (ne_of_none h2 n)]; exact h2, h3⟩, h4⟩
theorem nodup_at {l : List Cel} (h : (l.map Cel.a).Nodup) {i : Nat} {c d : Cel} (hi : l[i]? = some c) {j : Nat} (hj : l[j]? = some d) (e : d.a = c.a) : i = j := by
  have hi' : (l.map Cel.a)[i]? = some c.a := by rw [List.getElem?_map, hi]; rfl
  have hj' : (l.map Cel.a)[j]? = some c.a := by rw [List.getElem?_map, hj, ← e]; rfl
  exact (List.getElem?_inj (List.getElem?_eq_some_iff.mp hi').1 h).mp (hi'.trans hj'.symm)
/-- a cell's content changes -/
theorem OkF.mut {i : Nat} {c c' : Cel} {o : HO} (k : OkF fr Θ F H) (hi : Θ[i]? = some c) (ha : c'.a = c.a) (ho : c'.own = c.own) (h : c'.φ F o) : OkF fr (Θ.set i c') F (upd H c.a o) := by
  have hm := List.mem_of_getElem? hi
  obtain ⟨h1, ⟨u0, h2, h3⟩, h4⟩ := k.ce c hm
  refine ⟨fun a u h => ?_, k.f0, k.nw, fun a u hB h => ?_, fun a u h => ?_, ?_, fun d hd => ?_⟩
  · have ne : a ≠ c.a := fun e => by rw [e, h1] at h; cases h
    rw [upd_ne ne]
    exact k.fh a u h
  · have ne : a ≠ c.a := fun e => by
      cases q : c.own with
      | true =>
        rw [if_pos q] at h4
        rw [e, h4] at h
        cases h
      | false =>
        rw [if_neg (by rw [q]; exact Bool.false_ne_true)] at h4
        rw [e] at hB
        exact hB h4
    rw [upd_ne ne]
    exact k.h0 a u hB h
  · by_cases e : a = c.a
    · exact ⟨o, by rw [e]; exact upd_same⟩
    · rw [upd_ne e]
      exact k.al a u h
  · have : (Θ.set i c').map Cel.a = Θ.map Cel.a := by
      rw [List.map_set, ha]
      apply List.ext_getElem?
      intro j
      rw [List.getElem?_set]
      split
      · rename_i e
        subst e
        rw [List.getElem?_map, hi]
        have hlt : i < (Θ.map Cel.a).length := by
          rw [List.length_map]
          exact (List.getElem?_eq_some_iff.mp hi).1
        rw [if_pos hlt]
        rfl
      · rfl
    rw [this]
    exact k.nd
  · obtain ⟨j, hj⟩ := List.getElem?_of_mem hd
    rw [List.getElem?_set] at hj
    split at hj
    · rename_i e
      split at hj
      · cases hj
        rw [ha, ho]
        exact ⟨h1, ⟨o, upd_same, h⟩, h4⟩
      · cases hj
    · rename_i e
      have hd' := List.mem_of_getElem? hj
      obtain ⟨g1, ⟨u, g2, g3⟩, g4⟩ := k.ce d hd'
      have ne : d.a ≠ c.a := fun q => e (nodup_at k.nd hi hj q)
      exact ⟨g1, ⟨u, by rw [upd_ne ne]; exact g2, g3⟩, g4⟩
/-- a cell of one's own is frozen -/
theorem OkF.frz {i : Nat} {c : Cel} {o : HO} (k : OkF fr Θ F H) (hi : Θ[i]? = some c) (ho : c.own = true) (h : H c.a = some o) : OkF fr (Θ.eraseIdx i) (upd F c.a o) H := by
  have hm := List.mem_of_getElem? hi
  obtain ⟨h1, _, h4⟩ := k.ce c hm
  rw [if_pos ho] at h4
  have hlt := (List.getElem?_eq_some_iff.mp hi).1
  refine ⟨fun a u e => ?_, k.f0.trans (same_upd h1), fun a u e => ?_, k.h0, k.al, ?_, fun d hd => ?_⟩
  · by_cases q : a = c.a
    · rw [q, upd_same] at e
      rw [q, h, e]
    · rw [upd_ne q] at e
      exact k.fh a u e
  · by_cases q : a = c.a
    · rw [q]
      exact .inr (.inl h4)
    · rw [upd_ne q] at e
      exact k.nw a u e
  · exact (List.Sublist.map Cel.a (List.eraseIdx_sublist Θ i)).nodup k.nd
  · obtain ⟨j, hj⟩ := List.getElem?_of_mem hd
    rw [List.getElem?_eraseIdx] at hj
    have key : ∀ j', j' ≠ i → Θ[j']? = some d → (upd F c.a o) d.a = none ∧ (∃ u, H d.a = some u ∧ d.φ (upd F c.a o) u) ∧ (if d.own = true then fr.H0 d.a = none else d.a ∈ fr.B) := fun j' hne hj' => by
      obtain ⟨g1, ⟨u, g2, g3⟩, g4⟩ := k.ce d (List.mem_of_getElem? hj')
      have ne : d.a ≠ c.a := fun q => hne (nodup_at k.nd hi hj' q).symm
      exact ⟨by rw [upd_ne ne]; exact g1, ⟨u, g2, d.mono (same_upd h1) g3⟩, g4⟩
    split at hj
    · exact key j (by omega) hj
    · exact key (j + 1) (by omega) hj
theorem OkF.nwr {a : Addr} {o : HO} (k : OkF fr Θ F H) (ff : Same F F') (h : F' a = some o) (n : Nwr F H a o) : Nwr fr.F0 fr.H0 a o := by
  rcases n with ⟨o', h'⟩ | h' | h'
  · have e := ff a o' h'
    rw [h] at e
    cases e
    exact k.nw a o h'
  · exact .inr (.inl (k.h0n h'))
  · exact .inr (.inr h')
/-- after a call that lets all stand -/
theorem OkF.grow (k : OkF fr Θ F H) (hh : Same H H') (ff : Same F F') (fh : Same F' H') (nw : ∀ a o, F' a = some o → Nwr F H a o) : OkF fr Θ F' H' := by
  refine ⟨fh, k.f0.trans ff, fun a o h => ?_, fun a o hB h => hh _ _ (k.h0 a o hB h), fun a o h => ?_, k.nd, fun c hc => ?_⟩
  · exact k.nwr ff h (nw a o h)
  · obtain ⟨o', h'⟩ := k.al a o h
    exact ⟨o', hh _ _ h'⟩
  · obtain ⟨h1, ⟨u, h2, h3⟩, h4⟩ := k.ce c hc
    refine ⟨?_, ⟨u, hh _ _ h2, c.mono ff h3⟩, h4⟩
    cases q : F' c.a with
    | none => rfl
    | some o =>
      rcases nw _ _ q with ⟨o', h'⟩ | h' | ⟨vs, ht⟩
      · rw [h1] at h'
        cases h'
      · rw [h2] at h'
        cases h'
      · have e1 := fh _ _ q
        rw [hh _ _ h2] at e1
        exact (c.nt h3 ((Option.some.inj e1).trans ht)).elim
/-- at the start of a def: all that stands is frozen -/
theorem OkF.start (fh : Same F H) : OkF ⟨F, H, []⟩ [] F H := ⟨fh, Same.refl F, fun a o h => .inl ⟨o, h⟩, fun _ _ _ h => h, fun _ o h => ⟨o, h⟩, List.nodup_nil, fun c hc => by cases hc⟩
end
abbrev Gam := List (Option Vp)
def EnvF (Γ : Gam) (σ : L2.St) (F : Hp) : Prop := Paired (fun (e : Option Vp) (s : Option V) => ∀ p, e = some p → ∃ v, s = some v ∧ p.p F v) Γ σ
section
variable {Γ : Gam} {σ : L2.St} {F F' : Hp}
theorem EnvF.mono (h : EnvF Γ σ F) (e : Same F F') : EnvF Γ σ F' := Paired.imp2 (fun _ _ h p hp => by
  obtain ⟨v, h1, h2⟩ := h p hp
  exact ⟨v, h1, p.mono e h2⟩) h
theorem EnvF.get {i : Nat} {p : Vp} (h : EnvF Γ σ F) (hi : Γ[i]? = some (some p)) : ∃ v, σ[i]? = some (some v) ∧ p.p F v := by
  obtain ⟨s, h1, h2⟩ := Paired.get h hi
  obtain ⟨v, rfl, h3⟩ := h2 p rfl
  exact ⟨v, h1, h3⟩
theorem Paired.set {α β : Type} {R : α → β → Prop} {a : α} {b : β} (r : R a b) : ∀ {l : List α} {m : List β} (i : Nat), Paired R l m → Paired R (l.set i a) (m.set i b)
  | _, _, _, .nil => .nil
  | _, _, 0, .cons _ t => .cons r t
  | _, _, i + 1, .cons x t => .cons x (Paired.set r i t)
theorem EnvF.set {i : Nat} {p : Vp} {v : V} (h : EnvF Γ σ F) (hp : p.p F v) : EnvF (Γ.set i (some p)) (σ.set i (some v)) F :=
  Paired.set (fun q hq => by cases hq; exact ⟨v, rfl, hp⟩) i h
theorem EnvF.drop {i : Nat} {s : Option V} (h : EnvF Γ σ F) : EnvF (Γ.set i none) (σ.set i s) F := Paired.set (fun q hq => by cases hq) i h
theorem EnvF.len (h : EnvF Γ σ F) : Γ.length = σ.length := Paired.len h
end
/-- wherever the names hold Γ and the cells Θ, P holds -/
def Kn (fr : Fr) (Γ : Gam) (Θ : List Cel) (P : L2.St → Hp → Prop) : Prop := ∀ σ F H, OkF fr Θ F H → EnvF Γ σ F → P σ H
def Kq (fr : Fr) (F : Hp) (K : Vp → List Cel → Prop) (Q : VK) : Prop := ∀ p Θ', K p Θ' → ∀ v F' H', Same F F' → OkF fr Θ' F' H' → p.p F' v → Q v H'
def Kb (fr : Fr) (F : Hp) (K : Bool → List Cel → Prop) (Q : Bool → Hp → Prop) : Prop := ∀ b Θ', K b Θ' → ∀ F' H', Same F F' → OkF fr Θ' F' H' → Q b H'
def Ka (fr : Fr) (F : Hp) (K : List Vp → List Cel → Prop) (Q : List V → Hp → Prop) : Prop := ∀ ps Θ', K ps Θ' → ∀ vs F' H', Same F F' → OkF fr Θ' F' H' → Paired (fun (p : Vp) v => p.p F' v) ps vs → Q vs H'
def Ko (fr : Fr) (F : Hp) (K : Option Int → List Cel → Prop) (Q : Option Int → Hp → Prop) : Prop := ∀ b Θ', K b Θ' → ∀ F' H', Same F F' → OkF fr Θ' F' H' → Q b H'
def We (fr : Fr) (Γ : Gam) (Θ : List Cel) (t : TE) (K : Vp → List Cel → Prop) : Prop := ∀ σ F H, OkF fr Θ F H → EnvF Γ σ F → ∀ Q, Kq fr F K Q → t σ H Q
def Wt (fr : Fr) (Γ : Gam) (Θ : List Cel) (t : TT) (K : Bool → List Cel → Prop) : Prop := ∀ σ F H, OkF fr Θ F H → EnvF Γ σ F → ∀ Q, Kb fr F K Q → t σ H Q
def Wa (fr : Fr) (Γ : Gam) (Θ : List Cel) (t : TA) (K : List Vp → List Cel → Prop) : Prop := ∀ σ F H, OkF fr Θ F H → EnvF Γ σ F → ∀ Q, Ka fr F K Q → t σ H Q
def Wo (fr : Fr) (Γ : Gam) (Θ : List Cel) (t : TO) (K : Option Int → List Cel → Prop) : Prop := ∀ σ F H, OkF fr Θ F H → EnvF Γ σ F → ∀ Q, Ko fr F K Q → t σ H Q
/-- by values -/
def Ops (fr : Fr) (Θ : List Cel) (r : R2) (p q : Vp) (K : Vp → List Cel → Prop) : Prop := ∀ F H v w, OkF fr Θ F H → p.p F v → q.p F w → ∀ Q, Kq fr F K Q → r v w H Q
def Uns (fr : Fr) (Θ : List Cel) (r : V → Hp → VK → Prop) (p : Vp) (K : Vp → List Cel → Prop) : Prop := ∀ F H v, OkF fr Θ F H → p.p F v → ∀ Q, Kq fr F K Q → r v H Q
def Cbs (fr : Fr) (Θ : List Cel) (r : List V → Hp → VK → Prop) (ps : List Vp) (K : Vp → List Cel → Prop) : Prop := ∀ F H vs, OkF fr Θ F H → Paired (fun (p : Vp) v => p.p F v) ps vs → ∀ Q, Kq fr F K Q → r vs H Q
def Mts (fr : Fr) (Θ : List Cel) (r : V → List V → Hp → VK → Prop) (p : Vp) (ps : List Vp) (K : Vp → List Cel → Prop) : Prop := ∀ F H v vs, OkF fr Θ F H → p.p F v → Paired (fun (p : Vp) v => p.p F v) ps vs → ∀ Q, Kq fr F K Q → r v vs H Q
def Sls (fr : Fr) (Θ : List Cel) (r : V → Option Int → Option Int → Hp → VK → Prop) (p : Vp) (lo hi : Option Int) (K : Vp → List Cel → Prop) : Prop := ∀ F H v, OkF fr Θ F H → p.p F v → ∀ Q, Kq fr F K Q → r v lo hi H Q
/-- the value alone, and nothing else changes -/
abbrev Ev (fr : Fr) (Γ : Gam) (Θ : List Cel) (t : TE) (p : Vp) : Prop := We fr Γ Θ t fun q Θ' => q = p ∧ Θ' = Θ
abbrev Et (fr : Fr) (Γ : Gam) (Θ : List Cel) (t : TT) (b : Bool) : Prop := Wt fr Γ Θ t fun c Θ' => c = b ∧ Θ' = Θ
section
variable {fr : Fr} {Γ Γ' : Gam} {Θ : List Cel} {F F' H H' : Hp} {K : Vp → List Cel → Prop} {Q : VK}
theorem Kq.mono (h : Kq fr F K Q) (e : Same F F') : Kq fr F' K Q := fun p Θ' k v F2 H2 s2 => h p Θ' k v F2 H2 (e.trans s2)
theorem Kq.go {p : Vp} {v : V} (h : Kq fr F K Q) (k : K p Θ) (ok : OkF fr Θ F H) (hp : p.p F v) : Q v H := h p Θ k v F H (Same.refl F) ok hp
/-- a new object -/
theorem Kq.new {p : Vp} {a : Addr} {o : HO} (h : Kq fr F K Q) (k : K p Θ) (ok : OkF fr Θ F H) (n : H a = none) (hp : p.p (upd F a o) (.ref a)) : Q (.ref a) (upd H a o) := h p Θ k _ _ _ (ok.sameF n) (ok.new n) hp
theorem We.imp {t : TE} {K' : Vp → List Cel → Prop} (w : We fr Γ Θ t K) (h : ∀ p Θ', K p Θ' → K' p Θ') : We fr Γ Θ t K' := fun σ F H ok env Q q => w σ F H ok env Q fun p Θ' k => q p Θ' (h p Θ' k)
theorem we_var {i : Nat} {p : Vp} (h : Γ[i]? = some (some p)) (k : K p Θ) : We fr Γ Θ (tVar i) K := fun σ F H ok env Q q => by
  obtain ⟨v, h1, h2⟩ := env.get h
  exact ⟨v, h1, q.go k ok h2⟩
theorem we_c {v : V} {p : Vp} (hp : ∀ F, p.p F v) (k : K p Θ) : We fr Γ Θ (tC v) K := fun σ F H ok env Q q => q.go k ok (hp F)
theorem we_cI {n : Int} (k : K (iz zI n) Θ) : We fr Γ Θ (tC (.int n)) K := we_c (fun _ => rfl) k
theorem we_cS {z : Str} (h : Asc z) (k : K (iz zS z) Θ) : We fr Γ Θ (tC (.str z)) K := we_c (p := iz zS z) (fun _ => ⟨rfl, h⟩) k
theorem we_cB {b : Bool} (k : K (iz zB b) Θ) : We fr Γ Θ (tC (.bl b)) K := we_c (fun _ => rfl) k
theorem we_cN (k : K zNon Θ) : We fr Γ Θ (tC .non) K := we_c (fun _ => rfl) k
theorem we_op {r : R2} {ta tb : TE} (w : We fr Γ Θ ta fun p Θ1 => We fr Γ Θ1 tb fun q Θ2 => Ops fr Θ2 r p q K) : We fr Γ Θ (tOp r ta tb) K := fun σ F H ok env Q q =>
  w σ F H ok env _ fun p Θ1 k v F1 H1 s1 ok1 hp => k σ F1 H1 ok1 (env.mono s1) _ fun p2 Θ2 k2 v2 F2 H2 s2 ok2 hp2 => k2 F2 H2 v v2 ok2 (p.mono s2 hp) hp2 Q (q.mono (s1.trans s2))
theorem we_un {r : V → Hp → VK → Prop} {ta : TE} (w : We fr Γ Θ ta fun p Θ1 => Uns fr Θ1 r p K) : We fr Γ Θ (tUn r ta) K := fun σ F H ok env Q q =>
  w σ F H ok env _ fun p Θ1 k v F1 H1 s1 ok1 hp => k F1 H1 v ok1 hp Q (q.mono s1)
theorem wa_nil {K : List Vp → List Cel → Prop} (k : K [] Θ) : Wa fr Γ Θ tNil K := fun σ F H ok env Q q => q [] Θ k [] F H (Same.refl F) ok .nil
theorem wa_cons {K : List Vp → List Cel → Prop} {ta : TE} {tr : TA} (w : We fr Γ Θ ta fun p Θ1 => Wa fr Γ Θ1 tr fun ps Θ2 => K (p :: ps) Θ2) : Wa fr Γ Θ (tCons ta tr) K := fun σ F H ok env Q q =>
  w σ F H ok env _ fun p Θ1 k v F1 H1 s1 ok1 hp => k σ F1 H1 ok1 (env.mono s1) _ fun ps Θ2 k2 vs F2 H2 s2 ok2 hps => q (p :: ps) Θ2 k2 (v :: vs) F2 H2 (s1.trans s2) ok2 (.cons (p.mono s2 hp) hps)
theorem we_cb {r : List V → Hp → VK → Prop} {t : TA} (w : Wa fr Γ Θ t fun ps Θ1 => Cbs fr Θ1 r ps K) : We fr Γ Θ (tCB r t) K := fun σ F H ok env Q q =>
  w σ F H ok env _ fun ps Θ1 k vs F1 H1 s1 ok1 hps => k F1 H1 vs ok1 hps Q (q.mono s1)
theorem we_bm {Kf : PySem.W.Frag} {T : String} {r : V → List V → Hp → VK → Prop} {to : TE} {t : TA} (w : We fr Γ Θ to fun p Θ1 => (∀ F H v, OkF fr Θ1 F H → p.p F v → tyV Kf T v H) ∧ Wa fr Γ Θ1 t fun ps Θ2 => Mts fr Θ2 r p ps K) : We fr Γ Θ (tBM Kf T r to t) K := fun σ F H ok env Q q =>
  w σ F H ok env _ fun p Θ1 ⟨kt, k⟩ v F1 H1 s1 ok1 hp => ⟨kt F1 H1 v ok1 hp, k σ F1 H1 ok1 (env.mono s1) _ fun ps Θ2 k2 vs F2 H2 s2 ok2 hps => k2 F2 H2 v vs ok2 (p.mono s2 hp) hps Q (q.mono (s1.trans s2))⟩
theorem wo_none {K : Option Int → List Cel → Prop} (k : K none Θ) : Wo fr Γ Θ tNoPart K := fun σ F H ok env Q q => q none Θ k F H (Same.refl F) ok
theorem wo_some {K : Option Int → List Cel → Prop} {t : TE} (w : We fr Γ Θ t fun p Θ1 => ∃ n, p = iz zI n ∧ K (some n) Θ1) : Wo fr Γ Θ (tPart t) K := fun σ F H ok env Q q =>
  w σ F H ok env _ fun p Θ1 ⟨n, e, k⟩ v F1 H1 s1 ok1 hp => by
    subst e
    exact ⟨n, hp, q (some n) Θ1 k F1 H1 s1 ok1⟩
theorem we_sl {r : V → Option Int → Option Int → Hp → VK → Prop} {te : TE} {tl th : TO} (w : We fr Γ Θ te fun p Θ1 => Wo fr Γ Θ1 tl fun lo Θ2 => Wo fr Γ Θ2 th fun hi Θ3 => Sls fr Θ3 r p lo hi K) : We fr Γ Θ (tSl r te tl th) K := fun σ F H ok env Q q =>
  w σ F H ok env _ fun p Θ1 k v F1 H1 s1 ok1 hp => k σ F1 H1 ok1 (env.mono s1) _ fun lo Θ2 k2 F2 H2 s2 ok2 => k2 σ F2 H2 ok2 ((env.mono s1).mono s2) _ fun hi Θ3 k3 F3 H3 s3 ok3 =>
    k3 F3 H3 v ok3 (p.mono (s2.trans s3) hp) Q (q.mono ((s1.trans s2).trans s3))
theorem wt_test {K : Bool → List Cel → Prop} {t : TE} (w : We fr Γ Θ t fun p Θ1 => ∃ b, p = iz zB b ∧ K b Θ1) : Wt fr Γ Θ (tTest t) K := fun σ F H ok env Q q =>
  w σ F H ok env _ fun p Θ1 ⟨b, e, k⟩ v F1 H1 s1 ok1 hp => by
    subst e
    exact ⟨b, hp, q b Θ1 k F1 H1 s1 ok1⟩
theorem wt_b {K : Bool → List Cel → Prop} {t : TE} (w : We fr Γ Θ t fun p Θ1 => ∃ b, p = iz zB b ∧ K b Θ1) : Wt fr Γ Θ (tB t) K := wt_test (fr := fr) w
theorem wt_not {K : Bool → List Cel → Prop} {t : TT} (w : Wt fr Γ Θ t fun b Θ1 => K (!b) Θ1) : Wt fr Γ Θ (tNot t) K := fun σ F H ok env Q q =>
  w σ F H ok env _ fun b Θ1 k F1 H1 s1 ok1 => q (!b) Θ1 k F1 H1 s1 ok1
theorem wt_and {K : Bool → List Cel → Prop} {t u : TT} {b c : Bool} (w : Et fr Γ Θ t b) (x : b = true → Et fr Γ Θ u c) (k : K (b && c) Θ) : Wt fr Γ Θ (tAnd t u) K := fun σ F H ok env Q q =>
  w σ F H ok env _ fun b1 Θ1 ⟨e1, e2⟩ F1 H1 s1 ok1 => by
    subst e1 e2
    cases b1 with
    | true =>
      rw [if_pos rfl]
      refine x rfl σ F1 H1 ok1 (env.mono s1) _ fun c1 Θ2 ⟨e1, e2⟩ F2 H2 s2 ok2 => ?_
      subst e1 e2
      exact q c1 _ k F2 H2 (s1.trans s2) ok2
    | false =>
      rw [if_neg Bool.false_ne_true]
      exact q false _ k F1 H1 s1 ok1
theorem wt_or {K : Bool → List Cel → Prop} {t u : TT} {b c : Bool} (w : Et fr Γ Θ t b) (x : b = false → Et fr Γ Θ u c) (k : K (b || c) Θ) : Wt fr Γ Θ (tOr t u) K := fun σ F H ok env Q q =>
  w σ F H ok env _ fun b1 Θ1 ⟨e1, e2⟩ F1 H1 s1 ok1 => by
    subst e1 e2
    cases b1 with
    | false =>
      rw [if_neg Bool.false_ne_true]
      refine x rfl σ F1 H1 ok1 (env.mono s1) _ fun c1 Θ2 ⟨e1, e2⟩ F2 H2 s2 ok2 => ?_
      subst e1 e2
      exact q c1 _ k F2 H2 (s1.trans s2) ok2
    | true =>
      rw [if_pos rfl]
      exact q true _ k F1 H1 s1 ok1
theorem we_not {t : TE} (w : We fr Γ Θ t fun p Θ1 => ∃ b, p = iz zB b ∧ K (iz zB (!b)) Θ1) : We fr Γ Θ (tNotV t) K := fun σ F H ok env Q q =>
  w σ F H ok env _ fun p Θ1 ⟨b, e, k⟩ v F1 H1 s1 ok1 hp => by
    subst e
    exact ⟨b, hp, q _ Θ1 k _ F1 H1 s1 ok1 rfl⟩
/-- a if c else b, by ways -/
theorem we_if {c : TT} {ta tb : TE} (w : Wt fr Γ Θ c fun b Θ1 => (b = true → We fr Γ Θ1 ta K) ∧ (b = false → We fr Γ Θ1 tb K)) : We fr Γ Θ (tIf c ta tb) K := fun σ F H ok env Q q =>
  w σ F H ok env _ fun b Θ1 ⟨k1, k2⟩ F1 H1 s1 ok1 => by
    cases b with
    | true =>
      rw [if_pos rfl]
      exact k1 rfl σ F1 H1 ok1 (env.mono s1) Q (q.mono s1)
    | false =>
      rw [if_neg Bool.false_ne_true]
      exact k2 rfl σ F1 H1 ok1 (env.mono s1) Q (q.mono s1)
theorem kn_seq {t u : TS} {D : Ends} (h : Kn fr Γ Θ (t { D with nx := u D })) : Kn fr Γ Θ (tSeq t u D) := h
theorem kn_next {D : Ends} (h : Kn fr Γ Θ D.nx) : Kn fr Γ Θ (tNext D) := h
theorem kn_cont {D : Ends} (h : Kn fr Γ Θ D.ct) : Kn fr Γ Θ (tCont D) := h
/-- a target -/
def TgR (g : TG) (vs : List Nat) (p : Vp) (Γ Γ' : Gam) : Prop := ∀ σ F H v, Same F H → EnvF Γ σ F → p.p F v → ∀ Q : L2.St → Hp → Prop, (∀ σ', EnvF Γ' σ' F → wipe σ' vs = wipe σ vs → Q σ' H) → g v σ H Q
theorem tg_name {i : Nat} {p : Vp} : TgR (gName i) [i] p Γ (Γ.set i (some p)) := fun σ F H v fh env hp Q q => q _ (env.set hp) (by
  show (σ.set i (some v)).set i none = σ.set i none
  rw [List.set_set])
theorem set_comm' {α : Type} {l : List α} {i j : Nat} {a b : α} (h : i ≠ j) : (l.set i a).set j b = (l.set j b).set i a := List.set_comm a b h
theorem tg2 {Kf : PySem.W.Frag} {i j : Nat} {α β : Type} {r : Rep α} {s : Rep β} {x : α × β} (hij : i ≠ j) : TgR (gTup Kf 2 (gCons (gName i) (gCons (gName j) gNil))) [i, j] (iz (z2 r s) x) Γ ((Γ.set i (some (iz r x.1))).set j (some (iz s x.2))) := fun σ F H v fh env hp Q q => by
  obtain ⟨a, u, w, rfl, h2, h3, h4⟩ := hp
  refine ⟨a, _, rfl, SqT.of (fh _ _ h2), rfl, u, _, rfl, w, _, rfl, rfl, q _ ((env.set (p := iz r x.1) h3).set (p := iz s x.2) h4) ?_⟩
  show ((((σ.set i (some u)).set j (some w)).set j none).set i none) = (σ.set j none).set i none
  rw [List.set_set, set_comm' hij, List.set_set]
theorem kn_asg {te : TE} {i : Nat} {D : Ends} (w : We fr Γ Θ te fun p Θ1 => Kn fr (Γ.set i (some p)) Θ1 D.nx) : Kn fr Γ Θ (tAsg te (gName i) D) := fun σ F H ok env =>
  w σ F H ok env _ fun p Θ1 k v F1 H1 s1 ok1 hp => k _ F1 H1 ok1 ((env.mono s1).set hp)
theorem kn_asgT {te : TE} {g : TG} {D : Ends} (w : We fr Γ Θ te fun p Θ1 => ∃ vs Γ', TgR g vs p Γ Γ' ∧ Kn fr Γ' Θ1 D.nx) : Kn fr Γ Θ (tAsg te g D) := fun σ F H ok env =>
  w σ F H ok env _ fun p Θ1 ⟨vs, Γ', tg, k⟩ v F1 H1 s1 ok1 hp => tg σ F1 H1 v ok1.fh (env.mono s1) hp _ fun σ' env' _ => k σ' F1 H1 ok1 env'
theorem kn_if {c : TT} {t u : TS} {D : Ends} (w : Wt fr Γ Θ c fun b Θ1 => (b = true → Kn fr Γ Θ1 (t D)) ∧ (b = false → Kn fr Γ Θ1 (u D))) : Kn fr Γ Θ (tIfS c t u D) := fun σ F H ok env =>
  w σ F H ok env _ fun b Θ1 ⟨k1, k2⟩ F1 H1 s1 ok1 => by
    cases b with
    | true =>
      rw [if_pos rfl]
      exact k1 rfl σ F1 H1 ok1 (env.mono s1)
    | false =>
      rw [if_neg Bool.false_ne_true]
      exact k2 rfl σ F1 H1 ok1 (env.mono s1)
/-- what is returned -/
def Rt (fr : Fr) (Θ : List Cel) (rt : VK) (p : Vp) : Prop := ∀ v F H, OkF fr Θ F H → p.p F v → rt v H
theorem kn_ret {te : TE} {D : Ends} (w : We fr Γ Θ te fun p Θ1 => Rt fr Θ1 D.rt p) : Kn fr Γ Θ (tRet te D) := fun σ F H ok env =>
  w σ F H ok env _ fun p Θ1 k v F1 H1 s1 ok1 hp => k v F1 H1 ok1 hp
theorem kn_drop {te : TE} {D : Ends} (w : We fr Γ Θ te fun p Θ1 => Kn fr Γ Θ1 D.nx) : Kn fr Γ Θ (tDrop te D) := fun σ F H ok env =>
  w σ F H ok env _ fun p Θ1 k v F1 H1 s1 ok1 hp => k σ F1 H1 ok1 (env.mono s1)
/-- less is known -/
def GLe (Γ Γ' : Gam) : Prop := Paired (fun (e e' : Option Vp) => e' = none ∨ e' = e) Γ Γ'
theorem EnvF.le {σ : L2.St} (h : EnvF Γ σ F) (l : GLe Γ Γ') : EnvF Γ' σ F := by
  induction l generalizing σ with
  | nil => exact h
  | cons a _ ih =>
    cases h with
    | cons b c =>
      refine .cons (fun p hp => ?_) (ih c)
      rcases a with a | a
      · rw [a] at hp
        cases hp
      · rw [a] at hp
        exact b p hp
theorem Kn.le {P : L2.St → Hp → Prop} (k : Kn fr Γ' Θ P) (l : GLe Γ Γ') : Kn fr Γ Θ P := fun σ F H ok env => k σ F H ok (env.le l)
/-- a point where ways meet -/
def Mid (fr : Fr) (I : Gam → List Cel → Prop) (σ : L2.St) (H : Hp) : Prop := ∃ Γ Θ F, I Γ Θ ∧ OkF fr Θ F H ∧ EnvF Γ σ F
theorem kn_mid {I : Gam → List Cel → Prop} (h : ∃ Γ', GLe Γ Γ' ∧ I Γ' Θ) : Kn fr Γ Θ (Mid fr I) := fun σ F H ok env => by
  obtain ⟨Γ', l, i⟩ := h
  exact ⟨Γ', Θ, F, i, ok, env.le l⟩
theorem kn_cut {t u : TS} {D : Ends} (I : Gam → List Cel → Prop) (h : Kn fr Γ Θ (t { D with nx := Mid fr I })) (k : ∀ Γ Θ, I Γ Θ → Kn fr Γ Θ (u D)) : Kn fr Γ Θ (C8.tCut t u D) := fun σ F H ok env =>
  ⟨Mid fr I, h σ F H ok env, fun σ' H' ⟨Γ1, Θ1, F1, i, ok1, env1⟩ => k Γ1 Θ1 i σ' F1 H' ok1 env1⟩
end
end L2
set_option Elab.async false
set_option linter.all false
set_option maxRecDepth 100000
set_option maxHeartbeats 4000000
namespace L2
open PySem PySem.Spec PyProof.Rows PySem.HErr
section
variable {fr : Fr} {Γ Γ' : Gam} {Θ : List Cel} {F F' H H' : Hp} {K : Vp → List Cel → Prop} {Q : VK}
theorem ops_I0 {h : Int → Int → Int} {m n : Int} (k : K (iz zI (h m n)) Θ) : Ops fr Θ (rI0 fun i j => .int (h i j)) (iz zI m) (iz zI n) K := fun F H v w ok hv hw Q q => ⟨m, n, hv, hw, q.go k ok rfl⟩
theorem ops_B0 {h : Int → Int → Bool} {m n : Int} (k : K (iz zB (h m n)) Θ) : Ops fr Θ (rI0 fun i j => .bl (h i j)) (iz zI m) (iz zI n) K := fun F H v w ok hv hw Q q => ⟨m, n, hv, hw, q.go k ok rfl⟩
theorem ops_IC {C : Int → Int → Prop} {h : Int → Int → Int} {m n : Int} (c : C m n) (k : K (iz zI (h m n)) Θ) : Ops fr Θ (rI C fun i j => .int (h i j)) (iz zI m) (iz zI n) K := fun F H v w ok hv hw Q q => ⟨m, n, hv, hw, c, q.go k ok rfl⟩
theorem uns_I {h : Int → Int} {m : Int} (k : K (iz zI (h m)) Θ) : Uns fr Θ (rU fun i => .int (h i)) (iz zI m) K := fun F H v ok hv Q q => ⟨m, hv, q.go k ok rfl⟩
theorem dec_inj {α : Type} [DecidableEq α] {c : α → V} (hc : ∀ x y, c x = c y → x = y) (x y : α) : decide (c x = c y) = decide (x = y) := by
  by_cases e : x = y
  · rw [e, decide_eq_true rfl, decide_eq_true rfl]
  · rw [decide_eq_false e, decide_eq_false fun q => e (hc _ _ q)]
theorem ops_eqI {m n : Int} (k : K (iz zB (decide (m = n))) Θ) : Ops fr Θ rEq (iz zI m) (iz zI n) K := fun F H v w ok hv hw Q q => by
  have hv : v = .int m := hv
  have hw : w = .int n := hw
  subst hv hw
  refine ⟨rfl, ?_⟩
  rw [dec_inj (fun x y => V.int.inj)]
  exact q.go k ok rfl
theorem ops_neI {m n : Int} (k : K (iz zB (!decide (m = n))) Θ) : Ops fr Θ rNe (iz zI m) (iz zI n) K := fun F H v w ok hv hw Q q => by
  have hv : v = .int m := hv
  have hw : w = .int n := hw
  subst hv hw
  refine ⟨rfl, ?_⟩
  rw [dec_inj (fun x y => V.int.inj)]
  exact q.go k ok rfl
theorem ops_eqS {m n : Str} (k : K (iz zB (decide (m = n))) Θ) : Ops fr Θ rEq (iz zS m) (iz zS n) K := fun F H v w ok hv hw Q q => by
  obtain ⟨hv, _⟩ := hv
  obtain ⟨hw, _⟩ := hw
  subst hv hw
  refine ⟨rfl, ?_⟩
  rw [dec_inj (fun x y => V.str.inj)]
  exact q.go k ok rfl
theorem ops_neS {m n : Str} (k : K (iz zB (!decide (m = n))) Θ) : Ops fr Θ rNe (iz zS m) (iz zS n) K := fun F H v w ok hv hw Q q => by
  obtain ⟨hv, _⟩ := hv
  obtain ⟨hw, _⟩ := hw
  subst hv hw
  refine ⟨rfl, ?_⟩
  rw [dec_inj (fun x y => V.str.inj)]
  exact q.go k ok rfl
theorem ops_eqB {m n : Bool} (k : K (iz zB (decide (m = n))) Θ) : Ops fr Θ rEq (iz zB m) (iz zB n) K := fun F H v w ok hv hw Q q => by
  have hv : v = .bl m := hv
  have hw : w = .bl n := hw
  subst hv hw
  refine ⟨rfl, ?_⟩
  rw [dec_inj (fun x y => V.bl.inj)]
  exact q.go k ok rfl
theorem ops_neB {m n : Bool} (k : K (iz zB (!decide (m = n))) Θ) : Ops fr Θ rNe (iz zB m) (iz zB n) K := fun F H v w ok hv hw Q q => by
  have hv : v = .bl m := hv
  have hw : w = .bl n := hw
  subst hv hw
  refine ⟨rfl, ?_⟩
  rw [dec_inj (fun x y => V.bl.inj)]
  exact q.go k ok rfl
theorem pvs_S {vs : List V} {xs : List Str} (h : PVs zS F vs xs) : vs = xs.map V.str ∧ ∀ x ∈ xs, Asc x := by
  induction h with
  | nil => exact ⟨rfl, fun x hx => by cases hx⟩
  | cons a _ ih =>
    obtain ⟨a1, a2⟩ := a
    refine ⟨by rw [a1, ih.1]; rfl, fun x hx => ?_⟩
    rcases List.mem_cons.mp hx with rfl | hx
    · exact a2
    · exact ih.2 x hx
theorem pvs_I {vs : List V} {xs : List Int} (h : PVs zI F vs xs) : vs = xs.map V.int := by
  induction h with
  | nil => rfl
  | cons a _ ih =>
    have a : _ = V.int _ := a
    rw [a, ih]
    rfl
theorem pvs_B {vs : List V} {xs : List Bool} (h : PVs zB F vs xs) : vs = xs.map V.bl := by
  induction h with
  | nil => rfl
  | cons a _ ih =>
    have a : _ = V.bl _ := a
    rw [a, ih]
    rfl
theorem inV_ints (n : Int) (ws : List Int) : inV (.int n) (ws.map V.int) = decide (n ∈ ws) := by
  induction ws with
  | nil => rfl
  | cons a ws ih =>
    unfold inV at ih ⊢
    rw [List.map_cons, List.any_cons, ih]
    have e : eqV (V.int a) (V.int n) = decide (a = n) := rfl
    rw [e]
    by_cases h : a = n
    · rw [h]
      simp
    · rw [decide_eq_false h, Bool.false_or]
      by_cases h2 : n ∈ ws
      · rw [decide_eq_true h2, decide_eq_true (List.mem_cons_of_mem _ h2)]
      · rw [decide_eq_false h2, decide_eq_false fun q => (List.mem_cons.mp q).elim (fun e => h e.symm) h2]
theorem flat_intsG (ws : List Int) : (ws.map V.int).all flatV = true := by
  rw [List.all_map, List.all_eq_true]
  intro x _
  rfl
/-- a thing whose entries are xs, to be read: a frozen list, a frozen tuple, a cell -/
def SeqP {α : Type} (fr : Fr) (Θ : List Cel) (p : Vp) (r : Rep α) (xs : List α) : Prop := ∀ F H v, OkF fr Θ F H → p.p F v → ∃ a vs, v = .ref a ∧ (Rd H a (.lst vs) ∨ Rd H a (.tup vs)) ∧ PVs r F vs xs
theorem seq_L {α : Type} {r : Rep α} {xs : List α} : SeqP fr Θ (iz (zL r) xs) r xs := fun F H v ok ⟨a, vs, h1, h2, h3⟩ => ⟨a, vs, h1, .inl (.inl (ok.fh _ _ h2)), h3⟩
theorem seq_T {α : Type} [TNar α] {r : Rep α} {xs : List α} : SeqP fr Θ (iz (zT r) xs) r xs := fun F H v ok ⟨a, vs, h1, h2, h3⟩ => ⟨a, vs, h1, .inr (h2.mono ok.fh).rd, h3⟩
theorem sq_or {Kf : PySem.W.Frag} {a : Addr} {vs : List V} (h : Rd H a (.lst vs) ∨ Rd H a (.tup vs)) : SqL Kf H a vs ∨ SqT Kf H a vs := h.elim (fun h => .inl (.inl h)) fun h => .inr (.inl h)
theorem ops_inS {Kf : PySem.W.Frag} {p : Vp} {z : Str} {xs : List Str} (h : SeqP fr Θ p zS xs) (k : K (iz zB (decide (z ∈ xs))) Θ) : Ops fr Θ (rIn Kf false) (iz zS z) p K := fun F H v w ok hv hw Q q => by
  obtain ⟨hv, _⟩ := hv
  obtain ⟨a, vs, rfl, h2, h3⟩ := h F H w ok hw
  obtain ⟨rfl, _⟩ := pvs_S h3
  subst hv
  refine ⟨a, _, rfl, sq_or h2, rfl, flat_strsB _, ?_⟩
  rw [inV_strs]
  exact q.go k ok rfl
theorem ops_ninS {Kf : PySem.W.Frag} {p : Vp} {z : Str} {xs : List Str} (h : SeqP fr Θ p zS xs) (k : K (iz zB (!decide (z ∈ xs))) Θ) : Ops fr Θ (rIn Kf true) (iz zS z) p K := fun F H v w ok hv hw Q q => by
  obtain ⟨hv, _⟩ := hv
  obtain ⟨a, vs, rfl, h2, h3⟩ := h F H w ok hw
  obtain ⟨rfl, _⟩ := pvs_S h3
  subst hv
  refine ⟨a, _, rfl, sq_or h2, rfl, flat_strsB _, ?_⟩
  rw [inV_strs]
  exact q.go k ok rfl
theorem ops_inI {Kf : PySem.W.Frag} {p : Vp} {z : Int} {xs : List Int} (h : SeqP fr Θ p zI xs) (k : K (iz zB (decide (z ∈ xs))) Θ) : Ops fr Θ (rIn Kf false) (iz zI z) p K := fun F H v w ok hv hw Q q => by
  have hv : v = .int z := hv
  obtain ⟨a, vs, rfl, h2, h3⟩ := h F H w ok hw
  have := pvs_I h3
  subst hv this
  refine ⟨a, _, rfl, sq_or h2, rfl, flat_intsG _, ?_⟩
  rw [inV_ints]
  exact q.go k ok rfl
theorem pvs_at {α : Type} {r : Rep α} {vs : List V} {xs : List α} {n : Int} {x : α} (h : PVs r F vs xs) (e : atI xs n = some x) : ∃ v, atI vs n = some v ∧ r.p F v x := by
  unfold atI at e ⊢
  rw [Paired.len h]
  cases q : ixN xs.length n with
  | none =>
    rw [q] at e
    cases e
  | some j =>
    rw [q] at e
    exact Paired.get' h e
theorem ops_ixL {Kf : PySem.W.Frag} {α : Type} {r : Rep α} {xs : List α} {n : Int} {x : α} (e : atI xs n = some x) (k : K (iz r x) Θ) : Ops fr Θ (rIxL Kf) (iz (zL r) xs) (iz zI n) K := fun F H v w ok hv hw Q q => by
  obtain ⟨a, vs, rfl, h2, h3⟩ := hv
  obtain ⟨u, h4, h5⟩ := pvs_at h3 e
  exact ⟨a, vs, n, u, rfl, hw, SqL.of (ok.fh _ _ h2), h4, q.go k ok h5⟩
/-- x[0], x[1] of a pair; x[0], x[1], x[2] of a triple -/
theorem ops_ix20 {Kf : PySem.W.Frag} {α β : Type} {r : Rep α} {s : Rep β} {x : α × β} (k : K (iz r x.1) Θ) : Ops fr Θ (rIxT Kf) (iz (z2 r s) x) (iz zI 0) K := fun F H v w ok hv hw Q q => by
  obtain ⟨a, u, z, rfl, h2, h3, h4⟩ := hv
  exact ⟨a, _, 0, u, rfl, hw, SqT.of (ok.fh _ _ h2), rfl, q.go k ok h3⟩
theorem ops_ix21 {Kf : PySem.W.Frag} {α β : Type} {r : Rep α} {s : Rep β} {x : α × β} (k : K (iz s x.2) Θ) : Ops fr Θ (rIxT Kf) (iz (z2 r s) x) (iz zI 1) K := fun F H v w ok hv hw Q q => by
  obtain ⟨a, u, z, rfl, h2, h3, h4⟩ := hv
  exact ⟨a, _, 1, z, rfl, hw, SqT.of (ok.fh _ _ h2), rfl, q.go k ok h4⟩
theorem ops_ix30 {Kf : PySem.W.Frag} {α β γ : Type} {r : Rep α} {s : Rep β} {t : Rep γ} {x : α × β × γ} (k : K (iz r x.1) Θ) : Ops fr Θ (rIxT Kf) (iz (z3 r s t) x) (iz zI 0) K := fun F H v w ok hv hw Q q => by
  obtain ⟨a, u, z, y, rfl, h2, h3, h4, h5⟩ := hv
  exact ⟨a, _, 0, u, rfl, hw, SqT.of (ok.fh _ _ h2), rfl, q.go k ok h3⟩
theorem ops_ix31 {Kf : PySem.W.Frag} {α β γ : Type} {r : Rep α} {s : Rep β} {t : Rep γ} {x : α × β × γ} (k : K (iz s x.2.1) Θ) : Ops fr Θ (rIxT Kf) (iz (z3 r s t) x) (iz zI 1) K := fun F H v w ok hv hw Q q => by
  obtain ⟨a, u, z, y, rfl, h2, h3, h4, h5⟩ := hv
  exact ⟨a, _, 1, z, rfl, hw, SqT.of (ok.fh _ _ h2), rfl, q.go k ok h4⟩
theorem ops_ix32 {Kf : PySem.W.Frag} {α β γ : Type} {r : Rep α} {s : Rep β} {t : Rep γ} {x : α × β × γ} (k : K (iz t x.2.2) Θ) : Ops fr Θ (rIxT Kf) (iz (z3 r s t) x) (iz zI 2) K := fun F H v w ok hv hw Q q => by
  obtain ⟨a, u, z, y, rfl, h2, h3, h4, h5⟩ := hv
  exact ⟨a, _, 2, y, rfl, hw, SqT.of (ok.fh _ _ h2), rfl, q.go k ok h5⟩
def TupR (ps : List Vp) (q : Vp) : Prop := ∀ F a vs, F a = some (HO.tup vs) → Paired (fun (p : Vp) v => p.p F v) ps vs → q.p F (.ref a)
theorem small_len {α β : Type} {R : α → β → Prop} {l : List α} {m : List β} (h : Paired R l m) (hl : l.length ≤ 1000) : m.length ≤ sizeLine := by
  rw [← Paired.len h]
  exact Nat.le_of_lt (small1000 hl)
theorem ps_mono {ps : List Vp} {vs : List V} (e : Same F F') (h : Paired (fun (p : Vp) v => p.p F v) ps vs) : Paired (fun (p : Vp) v => p.p F' v) ps vs := Paired.imp2 (fun p _ h => p.mono e h) h
theorem we_tup {t : TA} (w : Wa fr Γ Θ t fun ps Θ1 => ps.length ≤ 1000 ∧ ∃ q, TupR ps q ∧ K q Θ1) : We fr Γ Θ (tTup t) K := fun σ F H ok env Q q =>
  w σ F H ok env _ fun ps Θ1 ⟨hl, p, tr, k⟩ vs F1 H1 s1 ok1 hps => ⟨small_len hps hl, fun a na => (q.mono s1).new k ok1 na (tr _ a vs upd_same (ps_mono (ok1.sameF na) hps))⟩
theorem tr2 {α β : Type} {r : Rep α} {s : Rep β} {x : α} {y : β} : TupR [iz r x, iz s y] (iz (z2 r s) (x, y)) := fun F a vs h hp => by
  cases hp with
  | cons h1 hp => cases hp with
    | cons h2 hp => cases hp with
      | nil => exact ⟨a, _, _, rfl, h, h1, h2⟩
theorem pvs_map {α : Type} {r : Rep α} {vs : List V} : ∀ {xs : List α}, Paired (fun (p : Vp) v => p.p F v) (xs.map (iz r)) vs → PVs r F vs xs := fun {xs} h => by
  induction xs generalizing vs with
  | nil => cases h; exact .nil
  | cons x xs ih => cases h with
    | cons a b => exact .cons a (ih b)
/-- a list, frozen -/
theorem we_lst {α : Type} {r : Rep α} {t : TA} (w : Wa fr Γ Θ t fun ps Θ1 => ∃ xs : List α, ps = xs.map (iz r) ∧ ps.length ≤ 1000 ∧ K (iz (zL r) xs) Θ1) : We fr Γ Θ (tLst t) K := fun σ F H ok env Q q =>
  w σ F H ok env _ fun ps Θ1 ⟨xs, e, hl, k⟩ vs F1 H1 s1 ok1 hps => ⟨small_len hps hl, fun a na => by
    subst e
    exact (q.mono s1).new k ok1 na ⟨a, vs, rfl, upd_same, pvs_map (ps_mono (ok1.sameF na) hps)⟩⟩
theorem cb_len {Kf : PySem.W.Frag} {α : Type} {r : Rep α} {xs : List α} {p : Vp} (h : SeqP fr Θ p r xs) (k : K (iz zI xs.length) Θ) : Cbs fr Θ (rLenQ Kf) [p] K := fun F H vs ok hps Q q => by
  cases hps with
  | cons h1 hp => cases hp with
    | nil =>
      obtain ⟨a, us, rfl, h2, h3⟩ := h F H _ ok h1
      refine ⟨a, us, rfl, sq_or h2, ?_⟩
      rw [Paired.len h3]
      exact q.go k ok rfl
theorem cb_list {Kf : PySem.W.Frag} {α : Type} {r : Rep α} {xs : List α} {p : Vp} (h : SeqP fr Θ p r xs) (k : K (iz (zL r) xs) Θ) : Cbs fr Θ (rListQ Kf) [p] K := fun F H vs ok hps Q q => by
  cases hps with
  | cons h1 hp => cases hp with
    | nil =>
      obtain ⟨a, us, rfl, h2, h3⟩ := h F H _ ok h1
      exact ⟨a, us, rfl, sq_or h2, fun l nl => q.new k ok nl ⟨l, us, rfl, upd_same, Paired.imp2 (fun _ _ h => r.mono (ok.sameF nl) h) h3⟩⟩
theorem cb_tuple {Kf : PySem.W.Frag} {α : Type} [TNar α] {r : Rep α} {xs : List α} {p : Vp} (h : ∀ F H v, OkF fr Θ F H → p.p F v → ∃ a vs, v = .ref a ∧ (H a = some (.lst vs) ∨ TupB (TNar.nar xs) F a vs) ∧ PVs r F vs xs) (k : K (iz (zT r) xs) Θ) : Cbs fr Θ (rTupQ Kf) [p] K := fun F H vs ok hps Q q => by
  cases hps with
  | cons h1 hp => cases hp with
    | nil =>
      obtain ⟨a, us, rfl, h2, h3⟩ := h F H _ ok h1
      refine ⟨a, us, rfl, ?_⟩
      rcases h2 with h2 | h2
      · exact .inl ⟨SqL.of h2, fun l nl => q.new k ok nl ⟨l, us, rfl, .inl upd_same, Paired.imp2 (fun _ _ h => r.mono (ok.sameF nl) h) h3⟩⟩
      · exact .inr ⟨h2.sq ok.fh, q.go k ok ⟨a, us, rfl, h2, h3⟩⟩
theorem cb_tupleL {Kf : PySem.W.Frag} {α : Type} [TNar α] {r : Rep α} {xs : List α} (k : K (iz (zT r) xs) Θ) : Cbs fr Θ (rTupQ Kf) [iz (zL r) xs] K := cb_tuple (fun F H v ok ⟨a, vs, h1, h2, h3⟩ => ⟨a, vs, h1, .inl (ok.fh _ _ h2), h3⟩) k
theorem cb_tupleT {Kf : PySem.W.Frag} {α : Type} [TNar α] {r : Rep α} {xs : List α} (k : K (iz (zT r) xs) Θ) : Cbs fr Θ (rTupQ Kf) [iz (zT r) xs] K := cb_tuple (fun F H v ok ⟨a, vs, h1, h2, h3⟩ => ⟨a, vs, h1, .inr h2, h3⟩) k
theorem cb_any {Kf : PySem.W.Frag} {xs : List Bool} (k : K (iz zB (xs.any id)) Θ) : Cbs fr Θ (rAny Kf) [iz (zL zB) xs] K := fun F H vs ok hps Q q => by
  cases hps with
  | cons h1 hp => cases hp with
    | nil =>
      obtain ⟨a, us, rfl, h2, h3⟩ := h1
      have := pvs_B h3
      subst this
      exact ⟨a, xs, rfl, SqL.of (ok.fh _ _ h2), q.go k ok rfl⟩
theorem cb_all {Kf : PySem.W.Frag} {xs : List Bool} (k : K (iz zB (xs.all id)) Θ) : Cbs fr Θ (rAll Kf) [iz (zL zB) xs] K := fun F H vs ok hps Q q => by
  cases hps with
  | cons h1 hp => cases hp with
    | nil =>
      obtain ⟨a, us, rfl, h2, h3⟩ := h1
      have := pvs_B h3
      subst this
      exact ⟨a, xs, rfl, SqL.of (ok.fh _ _ h2), q.go k ok rfl⟩
theorem cb_sum {Kf : PySem.W.Frag} {xs : List Int} (k : K (iz zI xs.sum) Θ) : Cbs fr Θ (rSum Kf) [iz (zL zI) xs] K := fun F H vs ok hps Q q => by
  cases hps with
  | cons h1 hp => cases hp with
    | nil =>
      obtain ⟨a, us, rfl, h2, h3⟩ := h1
      have := pvs_I h3
      subst this
      exact ⟨a, xs, rfl, SqL.of (ok.fh _ _ h2), q.go k ok rfl⟩
theorem cb_int {n : Int} (k : K (iz zI n) Θ) : Cbs fr Θ (fun xs H Q => (∃ i, xs = [.int i] ∧ Q (.int i) H) ∨ ∃ k, xs = [.bl k] ∧ Q (.int (if k then 1 else 0)) H) [iz zI n] K := fun F H vs ok hps Q q => by
  cases hps with
  | cons h1 hp => cases hp with
    | nil =>
      have h1 : _ = V.int n := h1
      subst h1
      exact .inl ⟨n, rfl, q.go k ok rfl⟩
theorem cb_abs {n : Int} (k : K (iz zI (if n < 0 then -n else n)) Θ) : Cbs fr Θ (fun xs H Q => ∃ i, xs = [.int i] ∧ Q (.int (if i < 0 then -i else i)) H) [iz zI n] K := fun F H vs ok hps Q q => by
  cases hps with
  | cons h1 hp => cases hp with
    | nil =>
      have h1 : _ = V.int n := h1
      subst h1
      exact ⟨n, rfl, q.go k ok rfl⟩
def cutX {α : Type} (xs : List α) (lo hi : Option Int) : List α := (xs.drop (HT.sIx xs.length 0 lo)).take (HT.sIx xs.length xs.length hi - HT.sIx xs.length 0 lo)
theorem pvs_cut {α : Type} {r : Rep α} {vs : List V} {xs : List α} {lo hi : Option Int} (h : PVs r F vs xs) : PVs r F (cutV vs lo hi) (cutX xs lo hi) := by
  unfold cutV cutX
  rw [Paired.len h]
  exact Paired.take _ (Paired.drop _ h)
theorem sls_L {Kf : PySem.W.Frag} {α : Type} {r : Rep α} {xs : List α} {lo hi : Option Int} (k : K (iz (zL r) (cutX xs lo hi)) Θ) : Sls fr Θ (rSlL Kf) (iz (zL r) xs) lo hi K := fun F H v ok hv Q q => by
  obtain ⟨a, vs, rfl, h2, h3⟩ := hv
  exact ⟨a, vs, rfl, SqL.of (ok.fh _ _ h2), fun l nl => q.new k ok nl ⟨l, _, rfl, upd_same, Paired.imp2 (fun _ _ h => r.mono (ok.sameF nl) h) (pvs_cut h3)⟩⟩
theorem ops_cat {α : Type} {r : Rep α} {xs ys : List α} (hl : xs.length + ys.length ≤ sizeLine) (k : K (iz (zL r) (xs ++ ys)) Θ) : Ops fr Θ rCat (iz (zL r) xs) (iz (zL r) ys) K := fun F H v w ok hv hw Q q => by
  obtain ⟨a, vs, rfl, h2, h3⟩ := hv
  obtain ⟨b, us, rfl, h4, h5⟩ := hw
  exact ⟨a, b, vs, us, rfl, rfl, ok.fh _ _ h2, ok.fh _ _ h4, by rw [Paired.len h3, Paired.len h5]; exact hl, fun l nl => q.new k ok nl ⟨l, _, rfl, upd_same, Paired.imp2 (fun _ _ h => r.mono (ok.sameF nl) h) (Paired.app h3 h5)⟩⟩
def Newer (F H F' : Hp) : Prop := ∀ a o, F' a = some o → Nwr F H a o
theorem Newer.refl (F H : Hp) : Newer F H F := fun _ o h => .inl ⟨o, h⟩
/-- the iterator J gives the things its, as long as F stands -/
def JOk (J : It) (F : Hp) (its : List Vp) : Prop := ∀ F1 H1, Same F F1 → Same F1 H1 → (∀ i p, its[i]? = some p → J.go i H1 ∧ ∀ x H2, J.yld i H1 x H2 → ∃ F2, Same F1 F2 ∧ Same H1 H2 ∧ Same F2 H2 ∧ Newer F1 H1 F2 ∧ p.p F2 x) ∧ J.stop its.length H1
def Wi (fr : Fr) (Γ : Gam) (Θ : List Cel) (wi : TI) (K : List Vp → List Cel → Prop) : Prop := ∀ σ F H, OkF fr Θ F H → EnvF Γ σ F → ∀ R : It → Hp → Prop, (∀ its Θ', K its Θ' → ∀ J F' H', Same F F' → OkF fr Θ' F' H' → JOk J F' its → R J H') → wi σ H R
theorem get_izs {α : Type} {r : Rep α} {xs : List α} {i : Nat} {p : Vp} (h : (xs.map (iz r))[i]? = some p) : ∃ x, xs[i]? = some x ∧ p = iz r x := by
  rw [List.getElem?_map] at h
  obtain ⟨x, hx, e⟩ := Option.map_eq_some_iff.mp h
  exact ⟨x, hx, e.symm⟩
theorem wi_list {Kf : PySem.W.Frag} {tl : TE} {K : List Vp → List Cel → Prop} (w : We fr Γ Θ tl fun p Θ1 => ∃ (α : Type) (r : Rep α) (xs : List α), p = iz (zL r) xs ∧ K (xs.map (iz r)) Θ1) : Wi fr Γ Θ (iList Kf tl) K := fun σ F H ok env R q =>
  w σ F H ok env _ fun p Θ1 ⟨α, r, xs, e, k⟩ v F1 H1 s1 ok1 hp => by
    subst e
    obtain ⟨a, vs, rfl, h2, h3⟩ := hp
    refine ⟨a, rfl, ⟨_, SqL.of (ok1.fh _ _ h2)⟩, q _ Θ1 k _ F1 H1 s1 ok1 fun F2 H2 s2 fh => ⟨fun i p hi => ?_, ?_⟩⟩
    · obtain ⟨x, hx, rfl⟩ := get_izs hi
      obtain ⟨u, hu, hux⟩ := Paired.get' h3 hx
      have sq : SqL Kf H2 a vs := SqL.of (fh _ _ (s2 _ _ h2))
      refine ⟨⟨vs, u, sq, hu⟩, fun y H3 ⟨e, hy⟩ => ?_⟩
      subst e
      have hy := hy vs sq
      rw [hu] at hy
      cases hy
      exact ⟨F2, Same.refl _, Same.refl _, fh, Newer.refl _ _, r.mono s2 hux⟩
    · rw [List.length_map, ← Paired.len h3]
      exact ⟨vs, SqL.of (fh _ _ (s2 _ _ h2)), Nat.le_refl _⟩
theorem wi_tup {Kf : PySem.W.Frag} {tl : TE} {K : List Vp → List Cel → Prop} (w : We fr Γ Θ tl fun p Θ1 => ∃ (α : Type) (_ : TNar α) (r : Rep α) (xs : List α), p = iz (zT r) xs ∧ K (xs.map (iz r)) Θ1) : Wi fr Γ Θ (iTup Kf tl) K := fun σ F H ok env R q =>
  w σ F H ok env _ fun p Θ1 ⟨α, _, r, xs, e, k⟩ v F1 H1 s1 ok1 hp => by
    subst e
    obtain ⟨a, vs, rfl, h2, h3⟩ := hp
    refine ⟨a, rfl, ⟨_, h2.sq ok1.fh⟩, q _ Θ1 k _ F1 H1 s1 ok1 fun F2 H2 s2 fh => ⟨fun i p hi => ?_, ?_⟩⟩
    · obtain ⟨x, hx, rfl⟩ := get_izs hi
      obtain ⟨u, hu, hux⟩ := Paired.get' h3 hx
      have sq : SqT Kf H2 a vs := (h2.mono s2).sq fh
      refine ⟨⟨vs, u, sq, hu⟩, fun y H3 ⟨e, hy⟩ => ?_⟩
      subst e
      have hy := hy vs sq
      rw [hu] at hy
      cases hy
      exact ⟨F2, Same.refl _, Same.refl _, fh, Newer.refl _ _, r.mono s2 hux⟩
    · rw [List.length_map, ← Paired.len h3]
      exact ⟨vs, (h2.mono s2).sq fh, Nat.le_refl _⟩
def intsF (lo : Int) (n : Nat) : List Int := (List.range n).map fun i : Nat => lo + (i : Int)
theorem intsF_get {lo : Int} {n i : Nat} {x : Int} (h : (intsF lo n)[i]? = some x) : i < n ∧ x = lo + i := by
  unfold intsF at h
  rw [List.getElem?_map] at h
  obtain ⟨j, hj, e⟩ := Option.map_eq_some_iff.mp h
  rcases Nat.lt_or_ge i n with h | h
  · rw [List.getElem?_range h] at hj
    cases hj
    exact ⟨h, e.symm⟩
  · rw [List.getElem?_eq_none (by rw [List.length_range]; exact h)] at hj
    cases hj
theorem intsF_len (lo : Int) (n : Nat) : (intsF lo n).length = n := by
  unfold intsF
  rw [List.length_map, List.length_range]
theorem jok_r (lo : Int) (n : Nat) : JOk (Itr lo n) F ((intsF lo n).map (iz zI)) := fun F2 H2 s2 fh => ⟨fun i p hi => by
    obtain ⟨x, hx, rfl⟩ := get_izs hi
    obtain ⟨h1, rfl⟩ := intsF_get hx
    exact ⟨h1, fun y H3 ⟨e, hy⟩ => by
      subst e
      exact ⟨F2, Same.refl _, Same.refl _, fh, Newer.refl _ _, hy⟩⟩, by
    rw [List.length_map, intsF_len]
    exact Nat.le_refl _⟩
theorem wi_range {ta : TA} {K : List Vp → List Cel → Prop} (w : Wa fr Γ Θ ta fun ps Θ1 => ∃ n : Int, ps = [iz zI n] ∧ -(2 ^ 62) ≤ n ∧ n < 2 ^ 62 ∧ K ((intsF 0 n.toNat).map (iz zI)) Θ1) : Wi fr Γ Θ (iRng1 ta) K := fun σ F H ok env R q =>
  w σ F H ok env _ fun ps Θ1 ⟨n, e, b1, b2, k⟩ vs F1 H1 s1 ok1 hps => by
    subst e
    cases hps with
    | cons h1 hp => cases hp with
      | nil =>
        have h1 : _ = V.int n := h1
        subst h1
        exact ⟨n, rfl, b1, b2, q _ Θ1 k _ F1 H1 s1 ok1 (jok_r 0 n.toNat)⟩
theorem wi_range2 {ta : TA} {K : List Vp → List Cel → Prop} (w : Wa fr Γ Θ ta fun ps Θ1 => ∃ m n : Int, ps = [iz zI m, iz zI n] ∧ (-(2 ^ 62) ≤ m ∧ m < 2 ^ 62 ∧ -(2 ^ 62) ≤ n ∧ n < 2 ^ 62) ∧ K ((intsF m (n - m).toNat).map (iz zI)) Θ1) : Wi fr Γ Θ (iRng2 ta) K := fun σ F H ok env R q =>
  w σ F H ok env _ fun ps Θ1 ⟨m, n, e, b, k⟩ vs F1 H1 s1 ok1 hps => by
    subst e
    cases hps with
    | cons h1 hp => cases hp with
      | cons h2 hp => cases hp with
        | nil =>
          have h1 : _ = V.int m := h1
          have h2 : _ = V.int n := h2
          subst h1 h2
          exact ⟨m, n, rfl, b, q _ Θ1 k _ F1 H1 s1 ok1 (jok_r m _)⟩
/-- a finer start: more is frozen -/
structure FrLe (fr fr' : Fr) : Prop where
  h : fr'.H0 = fr.H0
  b : fr'.B = fr.B
  f : Same fr.F0 fr'.F0
  n : ∀ a o, fr'.F0 a = some o → Nwr fr.F0 fr.H0 a o
theorem OkF.le {fr' : Fr} (ok : OkF fr' Θ F H) (l : FrLe fr fr') : OkF fr Θ F H := by
  obtain ⟨a1, a2, a3, a4⟩ := l
  refine ⟨ok.fh, a3.trans ok.f0, fun a o h => ?_, fun a o hB h => ok.h0 a o (by rw [a2]; exact hB) (by rw [a1]; exact h), fun a o h => ok.al a o (by rw [a1]; exact h), ok.nd, fun c hc => ?_⟩
  · rcases ok.nw a o h with ⟨o', h'⟩ | h' | h'
    · have e := ok.f0 a o' h'
      rw [h] at e
      cases e
      exact a4 a o h'
    · exact .inr (.inl (by rw [a1] at h'; exact h'))
    · exact .inr (.inr h')
  · have := ok.ce c hc
    rw [a1, a2] at this
    exact this
theorem OkF.fine {F1 H1 : Hp} {Θ1 : List Cel} (ok1 : OkF fr Θ1 F1 H1) : FrLe fr ⟨F1, fr.H0, fr.B⟩ := ⟨rfl, rfl, ok1.f0, ok1.nw⟩
theorem FrLe.trans {fr1 fr2 : Fr} (x : FrLe fr fr1) (y : FrLe fr1 fr2) : FrLe fr fr2 := ⟨y.h.trans x.h, y.b.trans x.b, x.f.trans y.f, fun a o h => (y.n a o h).elim (fun ⟨o', h'⟩ => by
  have e := y.f a o' h'
  rw [h] at e
  cases e
  exact x.n a o h') fun h' => h'.elim (fun h' => .inr (.inl (by rw [x.h] at h'; exact h'))) fun h' => .inr (.inr h')⟩
theorem Kn.fine {fr' : Fr} {P : L2.St → Hp → Prop} (k : Kn fr Γ Θ P) (l : FrLe fr fr') : Kn fr' Γ Θ P := fun σ F H ok env => k σ F H (ok.le l) env
theorem Rt.fine {fr' : Fr} {rt : VK} {p : Vp} (k : Rt fr Θ rt p) (l : FrLe fr fr') : Rt fr' Θ rt p := fun v F H ok h => k v F H (ok.le l) h
theorem kn_for {wi : TI} {g : TG} {tb : TS} {D : Ends} (w : Wi fr Γ Θ wi fun its Θ1 => ∃ I : Nat → Gam → List Cel → Prop, (∃ Γ0, GLe Γ Γ0 ∧ I 0 Γ0 Θ1) ∧
    (∀ fr', FrLe fr fr' → ∀ i p Γ1 Θ2, its[i]? = some p → I i Γ1 Θ2 → ∃ vs Γ2, TgR g vs p Γ1 Γ2 ∧ Kn fr' Γ2 Θ2 (tb { D with nx := Mid fr' (I (i + 1)), ct := Mid fr' (I (i + 1)), bk := D.nx })) ∧ ∀ Γ1 Θ2, I its.length Γ1 Θ2 → Kn fr Γ1 Θ2 D.nx) : Kn fr Γ Θ (tFor wi g tb D) := fun σ F H ok env =>
  w σ F H ok env _ fun its Θ1 ⟨I, ⟨Γ0, l0, i0⟩, hs, hd⟩ J F1 H1 s1 ok1 jok => by
    have le := ok1.fine
    have up : ∀ {Θ2 : List Cel} {F2 H2 : Hp}, OkF fr Θ2 F2 H2 → Same F1 F2 → OkF ⟨F1, fr.H0, fr.B⟩ Θ2 F2 H2 := fun ok s => ⟨ok.fh, s, fun a o h => (ok.nw a o h).elim (fun ⟨o', h'⟩ => .inl ⟨o', ok1.f0 _ _ h'⟩) .inr, ok.h0, ok.al, ok.nd, ok.ce⟩
    refine ⟨fun i m σ' H' => m = its.length - i ∧ i ≤ its.length ∧ Mid ⟨F1, fr.H0, fr.B⟩ (I i) σ' H', ⟨its.length, by simp, Nat.zero_le _, Γ0, Θ1, F1, i0, up ok1 (Same.refl _), (env.mono s1).le l0⟩, ?_⟩
    rintro i m σ' H' ⟨rfl, hi, Γ2, Θ2, F2, hI, ok2, env2⟩
    obtain ⟨j1, j2⟩ := jok F2 H' ok2.f0 ok2.fh
    by_cases hlt : i < its.length
    · obtain ⟨jg, jy⟩ := j1 i its[i] (List.getElem?_eq_getElem hlt)
      refine .inr ⟨jg, Mid ⟨F1, fr.H0, fr.B⟩ (I (i + 1)), fun σ3 H3 p => ⟨its.length - (i + 1), by omega, rfl, hlt, p⟩, fun x H3 y => ?_⟩
      obtain ⟨F3, e1, e2, e3, e4, e5⟩ := jy x H3 y
      have ok3 := ok2.grow e2 e1 e3 e4
      obtain ⟨vs, Γ4, tg, kn⟩ := hs _ le i _ Γ2 Θ2 (List.getElem?_eq_getElem hlt) hI
      exact tg σ' F3 H3 x ok3.fh (env2.mono e1) e5 _ fun σ4 env4 _ => kn σ4 F3 H3 ok3 env4
    · have e : i = its.length := by omega
      subst e
      exact .inl ⟨j2, hd Γ2 Θ2 hI σ' F2 H' (ok2.le le) env2⟩
def wipeG (Γ : Gam) : List Nat → Gam
  | [] => Γ
  | v :: vs => (wipeG Γ vs).set v none
theorem EnvF.wipe {σ : L2.St} (h : EnvF Γ σ F) : ∀ vs, EnvF (wipeG Γ vs) (L2.wipe σ vs) F
  | [] => h
  | v :: vs => (EnvF.wipe h vs).drop
theorem wipe_get (σ : L2.St) (j : Nat) : ∀ vs : List Nat, (L2.wipe σ vs)[j]? = if j ∈ vs ∧ j < σ.length then some none else σ[j]?
  | [] => by simp [L2.wipe]
  | v :: vs => by
    unfold L2.wipe
    rw [List.getElem?_set, wipe_get σ j vs, wipe_length]
    by_cases h : v = j
    · subst h
      by_cases h2 : v < σ.length
      · rw [if_pos rfl, if_pos h2, if_pos ⟨List.mem_cons_self .., h2⟩]
      · rw [if_pos rfl, if_neg h2, if_neg (fun q => h2 q.2), List.getElem?_eq_none (by omega)]
    · rw [if_neg h]
      by_cases h2 : j ∈ vs ∧ j < σ.length
      · rw [if_pos h2, if_pos ⟨List.mem_cons_of_mem _ h2.1, h2.2⟩]
      · rw [if_neg h2, if_neg (fun q => h2 ⟨(List.mem_cons.mp q.1).resolve_left (fun e => h e.symm), q.2⟩)]
theorem wipe_idem (σ : L2.St) (vs : List Nat) : L2.wipe (L2.wipe σ vs) vs = L2.wipe σ vs := by
  apply List.ext_getElem?
  intro j
  rw [wipe_get, wipe_length, wipe_get]
  split <;> rfl
theorem wt_yes {K : Bool → List Cel → Prop} (k : K true Θ) : Wt fr Γ Θ tYes K := fun σ F H ok env Q q => q true Θ k F H (Same.refl F) ok
end
end L2
set_option Elab.async false
set_option linter.all false
set_option maxRecDepth 100000
set_option maxHeartbeats 4000000
namespace L2
open PySem PySem.Spec PyProof.Rows PySem.HErr
/-- an error: its class, its fields -/
structure Er where
  C : Addr
  fs : List (Str × Vp)
def FsOk (F : Hp) (fs : List (Str × Vp)) (us : List (Str × V)) : Prop := Paired (fun (x : Str × Vp) (y : Str × V) => x.1 = y.1 ∧ x.2.p F y.2) fs us
theorem FsOk.mono {F F' : Hp} {fs : List (Str × Vp)} {us : List (Str × V)} (h : FsOk F fs us) (e : Same F F') : FsOk F' fs us := Paired.imp2 (fun x _ ⟨h1, h2⟩ => ⟨h1, x.2.mono e h2⟩) h
theorem FsOk.look {F : Hp} {f : Str} {p : Vp} : ∀ {fs : List (Str × Vp)} {us : List (Str × V)}, FsOk F fs us → fs.lookup f = some p → ∃ v, us.lookup f = some v ∧ p.p F v
  | _, _, .nil, h => by cases h
  | (a, q) :: fs, (b, u) :: us, .cons ⟨h1, h2⟩ r, h => by
    have h1 : a = b := h1
    subst h1
    rw [List.lookup_cons] at h ⊢
    cases e : (f == a) with
    | true =>
      rw [e] at h
      cases h
      exact ⟨u, rfl, h2⟩
    | false =>
      rw [e] at h
      exact FsOk.look r h
def Kr (fr : Fr) (Γ : Gam) (Θ : List Cel) (W : WX) (e : Er) : Prop := ∀ σ F H, OkF fr Θ F H → EnvF Γ σ F → ∀ d us, F d = some (.xd us) → FsOk F e.fs us → W (.ref e.C) (some d) σ H
/-- what a def raises -/
def Rse (fr : Fr) (E : XK) (err : Er → Prop) : Prop := ∀ e, err e → ∀ Θ F H d us, OkF fr Θ F H → F d = some (.xd us) → FsOk F e.fs us → E (.ref e.C) (some d) H
/-- what a def returns -/
def Ret (fr : Fr) (Q : VK) (out : Vp → Prop) : Prop := ∀ p, out p → ∀ Θ, Rt fr Θ Q p
def Sps (fr : Fr) (Γ : Gam) (Θ : List Cel) (sp : Sp) (E : L2.St → XK) (ps : List Vp) (K : Vp → List Cel → Prop) : Prop := ∀ σ F H vs, OkF fr Θ F H → EnvF Γ σ F → Paired (fun (p : Vp) v => p.p F v) ps vs → ∀ Q, Kq fr F K Q → sp vs H Q (E σ)
section
variable {fr : Fr} {Γ Γ' : Gam} {Θ : List Cel} {F F' H H' : Hp} {K : Vp → List Cel → Prop} {Q : VK}
theorem Rse.fine {fr' : Fr} {E : XK} {err : Er → Prop} (h : Rse fr E err) (l : FrLe fr fr') : Rse fr' E err := fun e he Θ F H d us ok => h e he Θ F H d us (ok.le l)
theorem Ret.fine {fr' : Fr} {out : Vp → Prop} (h : Ret fr Q out) (l : FrLe fr fr') : Ret fr' Q out := fun p hp Θ => (h p hp Θ).fine l
theorem we_callE {sp : Sp} {E : XK} {t : TA} (w : Wa fr Γ Θ t fun ps Θ1 => Sps fr Γ Θ1 sp (fun _ => E) ps K) : We fr Γ Θ (tCall sp [] E t) K := fun σ F H ok env Q q =>
  w σ F H ok env _ fun ps Θ1 k vs F1 H1 s1 ok1 hps => by
    rw [List.append_nil]
    exact k σ F1 H1 vs ok1 (env.mono s1) hps Q (q.mono s1)
theorem we_callS {sp : Sp} {E : L2.St → XK} {t : TA} (w : Wa fr Γ Θ t fun ps Θ1 => Sps fr Γ Θ1 sp E ps K) : We fr Γ Θ (tCallS sp E t) K := fun σ F H ok env Q q =>
  w σ F H ok env _ fun ps Θ1 k vs F1 H1 s1 ok1 hps => k σ F1 H1 vs ok1 (env.mono s1) hps Q (q.mono s1)
/-- an instance of the class at C, m no field of its own -/
def InsP (fr : Fr) (Θ : List Cel) (p : Vp) (C : Addr) (m : Str) : Prop := ∀ F H v, OkF fr Θ F H → p.p F v → ∃ a dx fs, v = .ref a ∧ H a = some (.ins C dx fs) ∧ fs.lookup m = none
theorem we_met {C : Addr} {m : Str} {sp : Sp} {E : L2.St → XK} {ta : TE} {t : TA} (w : We fr Γ Θ ta fun p Θ1 => InsP fr Θ1 p C m ∧ Wa fr Γ Θ1 t fun ps Θ2 => Sps fr Γ Θ2 sp E (p :: ps) K) : We fr Γ Θ (tMetD C m sp E ta t) K := fun σ F H ok env Q q =>
  w σ F H ok env _ fun p Θ1 ⟨ki, k⟩ v F1 H1 s1 ok1 hp => by
    obtain ⟨a, dx, fs, rfl, h2, h3⟩ := ki F1 H1 v ok1 hp
    exact ⟨a, dx, fs, rfl, h2, h3, k σ F1 H1 ok1 (env.mono s1) _ fun ps Θ2 k2 vs F2 H2 s2 ok2 hps => k2 σ F2 H2 _ ok2 ((env.mono s1).mono s2) (.cons (p.mono s2 hp) hps) Q (q.mono (s1.trans s2))⟩
def Post (F H : Hp) (Q : VK) (out : Vp → Prop) : Prop := ∀ p, out p → ∀ v F' H', Same H H' → Same F F' → Same F' H' → Newer F H F' → p.p F' v → Q v H'
def PErs (F H : Hp) (E : XK) (err : Er → Prop) : Prop := ∀ e, err e → ∀ F' H' d us, Same H H' → Same F F' → Same F' H' → Newer F H F' → F' d = some (.xd us) → FsOk F' e.fs us → E (.ref e.C) (some d) H'
abbrev Pre := List Vp → (Vp → Prop) → (Er → Prop) → Prop
def spA (pre : Pre) : Sp := fun vs H Q E => ∃ F ps out err, Same F H ∧ Paired (fun (p : Vp) v => p.p F v) ps vs ∧ pre ps out err ∧ Post F H Q out ∧ PErs F H E err
theorem sps_A {pre : Pre} {E : L2.St → XK} {ps : List Vp} {out : Vp → Prop} {err : Er → Prop} (hp : pre ps out err) (k : ∀ p, out p → K p Θ) (x : ∀ e, err e → Kr fr Γ Θ (fun cls d σ H => E σ cls d H) e) : Sps fr Γ Θ (spA pre) E ps K := fun σ F H vs ok env hps Q q =>
  ⟨F, ps, out, err, ok.fh, hps, hp, fun p ho v F' H' hh ff fh nw h => q p Θ (k p ho) v F' H' ff (ok.grow hh ff fh nw) h,
    fun e he F' H' d us hh ff fh nw hd hf => x e he σ F' H' (ok.grow hh ff fh nw) (env.mono ff) d us hd hf⟩
/-- nothing is raised -/
def noErr : Er → Prop := fun _ => False
theorem OkF.post (ok : OkF ⟨F, H, []⟩ Θ F' H') : Same H H' ∧ Same F F' ∧ Same F' H' ∧ Newer F H F' := ⟨fun a o h => ok.h0 a o (by simp) h, ok.f0, ok.fh, ok.nw⟩
theorem Post.ret {out : Vp → Prop} (h : Post F H Q out) : Ret ⟨F, H, []⟩ Q out := fun p hp Θ v F' H' ok hv => by
  obtain ⟨a, b, c, d⟩ := ok.post
  exact h p hp v F' H' a b c d hv
theorem PErs.rse {E : XK} {err : Er → Prop} (h : PErs F H E err) : Rse ⟨F, H, []⟩ E err := fun e he Θ F' H' d us ok hd hf => by
  obtain ⟨a, b, c, n⟩ := ok.post
  exact h e he F' H' d us a b c n hd hf
def envOf (N : List Str) (ps : List Vp) : Gam := ps.map some ++ List.replicate (N.length - ps.length) none
theorem env_start {N : List Str} {ps : List Vp} {vs : List V} (h : Paired (fun (p : Vp) v => p.p F v) ps vs) : EnvF (envOf N ps) (start N vs) F := by
  unfold envOf start
  rw [Paired.len h]
  refine Paired.app ?_ ?_
  · induction h with
    | nil => exact .nil
    | cons a _ ih => exact .cons (fun p hp => by cases hp; exact ⟨_, rfl, a⟩) ih
  · have : ∀ n : Nat, Paired (fun (e : Option Vp) (s : Option V) => ∀ p, e = some p → ∃ v, s = some v ∧ p.p F v) (List.replicate n none) (List.replicate n none) := fun n => by
      induction n with
      | zero => exact .nil
      | succ n ih => exact .cons (fun p hp => by cases hp) ih
    exact this _
end
section
variable {P : Program} {w : World} {K : PySem.W.Frag} {mg : Str → Option Value} {base : Heap} {x m qual : Str} {C : Addr} {st : Stmt} {N ps : List Str} {k : Nat} {pre : Pre}
theorem Src.okA (F : Src K mg x st ps) (S : FnScope N ps (defScope st)) (len : ∀ qs out err, pre qs out err → qs.length = ps.length)
    (hbody : ∀ (f : Addr) (cdv : Value) (A : Around) (outer : List Env) (s : Shared) (H : Hp) (E : XK) (qs : List Vp) (out : Vp → Prop) (err : Er → Prop), Room k (A.deeper (envOfC x (defScope st) s.heap.objs.size f cdv)) → pre qs out err →
      ∃ t, PSs (cxOf CX0 P w K mg base N x (defScope st) f cdv A outer s H E).nox (defBody st) t ∧ ∀ fr Q, Ret fr Q out → Kn fr (envOf N qs) [] (t { nx := fun _ H' => Q .non H', rt := Q })) : Def P w K mg base CX0 (k + 1) x ps (spA pre) := by
  refine F.ok S (fun vs H Q E h => ?_) (fun f cdv A outer s H vs Q E hr h => ?_)
  · obtain ⟨F, qs, out, err, _, h2, h3, _⟩ := h
    rw [← Paired.len h2]
    exact len _ _ _ h3
  · obtain ⟨F, qs, out, err, h1, h2, h3, h4, h5⟩ := h
    obtain ⟨t, ht, hk⟩ := hbody f cdv A outer s H E qs out err hr h3
    exact ⟨t, ht, hk _ Q h4.ret _ F H (OkF.start h1) (env_start h2)⟩
theorem Src.okAX (F : Src K mg x st ps) (S : FnScope N ps (defScope st)) (len : ∀ qs out err, pre qs out err → qs.length = ps.length)
    (hbody : ∀ (f : Addr) (cdv : Value) (A : Around) (outer : List Env) (s : Shared) (H : Hp) (E : XK) (qs : List Vp) (out : Vp → Prop) (err : Er → Prop), Room k (A.deeper (envOfC x (defScope st) s.heap.objs.size f cdv)) → pre qs out err →
      ∃ t, PSs (cxOf (L2.CX P w) P w K mg base N x (defScope st) f cdv A outer s H E) (defBody st) t ∧ ∀ fr Q, Ret fr Q out → Rse fr E err → Kn fr (envOf N qs) [] (t { nx := fun _ H' => Q .non H', rt := Q })) : Def P w K mg base (L2.CX P w) (k + 1) x ps (spA pre) := by
  refine F.okX S (fun vs H Q E h => ?_) (fun f cdv A outer s H vs Q E hr h => ?_)
  · obtain ⟨F, qs, out, err, _, h2, h3, _⟩ := h
    rw [← Paired.len h2]
    exact len _ _ _ h3
  · obtain ⟨F, qs, out, err, h1, h2, h3, h4, h5⟩ := h
    obtain ⟨t, ht, hk⟩ := hbody f cdv A outer s H E qs out err hr h3
    exact ⟨t, ht, hk _ Q h4.ret h5.rse _ F H (OkF.start h1) (env_start h2)⟩
theorem SrcM.okA (F : SrcM K C m qual st ps) (S : FnScope N ps (defScope st)) (len : ∀ qs out err, pre qs out err → qs.length = ps.length)
    (hbody : ∀ (f : Addr) (cdv : Value) (A : Around) (outer : List Env) (s : Shared) (H : Hp) (E : XK) (qs : List Vp) (out : Vp → Prop) (err : Er → Prop), Room k (A.deeper (envOfC qual (defScope st) s.heap.objs.size f cdv)) → pre qs out err →
      ∃ t, PSs (cxOf CX0 P w K mg base N qual (defScope st) f cdv A outer s H E).nox (defBody st) t ∧ ∀ fr Q, Ret fr Q out → Kn fr (envOf N qs) [] (t { nx := fun _ H' => Q .non H', rt := Q })) : DefM P w K mg base CX0 (k + 1) C m ps (spA pre) := by
  refine F.ok S (fun vs H Q E h => ?_) (fun f cdv A outer s H vs Q E hr h => ?_)
  · obtain ⟨F, qs, out, err, _, h2, h3, _⟩ := h
    rw [← Paired.len h2]
    exact len _ _ _ h3
  · obtain ⟨F, qs, out, err, h1, h2, h3, h4, h5⟩ := h
    obtain ⟨t, ht, hk⟩ := hbody f cdv A outer s H E qs out err hr h3
    exact ⟨t, ht, hk _ Q h4.ret _ F H (OkF.start h1) (env_start h2)⟩
theorem SrcM.okAX (F : SrcM K C m qual st ps) (S : FnScope N ps (defScope st)) (len : ∀ qs out err, pre qs out err → qs.length = ps.length)
    (hbody : ∀ (f : Addr) (cdv : Value) (A : Around) (outer : List Env) (s : Shared) (H : Hp) (E : XK) (qs : List Vp) (out : Vp → Prop) (err : Er → Prop), Room k (A.deeper (envOfC qual (defScope st) s.heap.objs.size f cdv)) → pre qs out err →
      ∃ t, PSs (cxOf (L2.CX P w) P w K mg base N qual (defScope st) f cdv A outer s H E) (defBody st) t ∧ ∀ fr Q, Ret fr Q out → Rse fr E err → Kn fr (envOf N qs) [] (t { nx := fun _ H' => Q .non H', rt := Q })) : DefM P w K mg base (L2.CX P w) (k + 1) C m ps (spA pre) := by
  refine F.okX S (fun vs H Q E h => ?_) (fun f cdv A outer s H vs Q E hr h => ?_)
  · obtain ⟨F, qs, out, err, _, h2, h3, _⟩ := h
    rw [← Paired.len h2]
    exact len _ _ _ h3
  · obtain ⟨F, qs, out, err, h1, h2, h3, h4, h5⟩ := h
    obtain ⟨t, ht, hk⟩ := hbody f cdv A outer s H E qs out err hr h3
    exact ⟨t, ht, hk _ Q h4.ret h5.rse _ F H (OkF.start h1) (env_start h2)⟩
end
section
variable {fr : Fr} {Γ Γ' : Gam} {Θ : List Cel} {F F' H H' : Hp} {K : Vp → List Cel → Prop} {Q : VK}
theorem kr_E {E : XK} {err : Er → Prop} {e : Er} (h : Rse fr E err) (he : err e) : Kr fr Γ Θ (fun cls d _ H => E cls d H) e := fun σ F H ok env d us hd hf => h e he Θ F H d us ok hd hf
theorem zip_ok {fs : List Str} {ps : List Vp} {vs : List V} (h : Paired (fun (p : Vp) v => p.p F v) ps vs) : ∀ {fs : List Str}, Paired (fun (x : Str × Vp) (y : Str × V) => x.1 = y.1 ∧ x.2.p F y.2) (fs.zip ps) (fs.zip vs) := fun {fs} => by
  induction h generalizing fs with
  | nil => rw [List.zip_nil_right, List.zip_nil_right]; exact .nil
  | cons a _ ih => cases fs with
    | nil => exact .nil
    | cons f fs => exact .cons ⟨rfl, a⟩ ih
theorem Paired.rev {α β : Type} {R : α → β → Prop} {l : List α} {m : List β} (h : Paired R l m) : Paired R l.reverse m.reverse := by
  induction h with
  | nil => exact .nil
  | cons a _ ih => rw [List.reverse_cons, List.reverse_cons]; exact PySem.Paired.snoc ih a
theorem kn_raise {tm : Bool} {C : Addr} {fs : List Str} {W : WX} {ta : TA} {D : Ends} (w : Wa fr Γ Θ ta fun ps Θ1 => ps.length = fs.length ∧ (tm = true → ∃ z r, ps = iz zS z :: r ∧ z.length ≤ 1000) ∧ Kr fr Γ Θ1 W ⟨C, (fs.zip ps).reverse⟩) : Kn fr Γ Θ (tRaiseE tm C fs W ta D) := fun σ F H ok env =>
  w σ F H ok env _ fun ps Θ1 ⟨hl, ht, k⟩ vs F1 H1 s1 ok1 hps => by
    refine ⟨by rw [← Paired.len hps]; exact hl, fun h => ?_, fun d nd => ?_⟩
    · obtain ⟨z, r, e, hz⟩ := ht h
      subst e
      cases hps with
      | cons a b => exact ⟨z, _, by rw [a.1], hz⟩
    · have s2 := ok1.sameF (o := .xd (fs.zip vs).reverse) nd
      exact k σ _ _ (ok1.new nd) ((env.mono s1).mono s2) d _ upd_same (Paired.rev (zip_ok (fs := fs) (ps_mono s2 hps)))
/-- the caught exception at a, its dict at d -/
def zExc (a d : Addr) (fs : List (Str × Vp)) : Vp := ⟨fun F v => v = .ref a ∧ ∃ us, F d = some (.xd us) ∧ FsOk F fs us, fun e ⟨h1, us, h2, h3⟩ => ⟨h1, us, e _ _ h2, h3.mono e⟩⟩
theorem kr_cl {Kf : PySem.W.Frag} {c : Value} {i : Nat} {ts : Addr → Value → Option Addr → TS} {Wout : WX} {D : Ends} {r : List Clause} {e : Er} (hx : PySem.W.exmOne Kf (.ref e.C) c = some true)
    (k : ∀ a d, Kn fr (Γ.set i (some (zExc a d e.fs))) Θ (ts a (.ref e.C) (some d) { nx := fun σ' H' => D.nx (σ'.set i none) H', rt := D.rt, bk := fun σ' H' => D.bk (σ'.set i none) H', ct := fun σ' H' => D.ct (σ'.set i none) H' })) : Kr fr Γ Θ (wClauses Kf Wout D ((c, some i, ts) :: r)) e := fun σ F H ok env d us hd hf =>
  ⟨true, hx, fun _ a ha => k a d _ F H ok (env.set (p := zExc a d e.fs) ⟨rfl, us, hd, hf⟩), fun q => Bool.noConfusion q⟩
theorem kr_clN {Kf : PySem.W.Frag} {c : Value} {o : Option Nat} {ts : Addr → Value → Option Addr → TS} {Wout : WX} {D : Ends} {r : List Clause} {e : Er} (hx : PySem.W.exmOne Kf (.ref e.C) c = some false) (k : Kr fr Γ Θ (wClauses Kf Wout D r) e) : Kr fr Γ Θ (wClauses Kf Wout D ((c, o, ts) :: r)) e := fun σ F H ok env d us hd hf =>
  ⟨false, hx, fun q => Bool.noConfusion q, fun _ => k σ F H ok env d us hd hf⟩
theorem kn_suite {i : Nat} {P : L2.St → Hp → Prop} (k : Kn fr (Γ.set i none) Θ P) : Kn fr Γ Θ (fun σ' H' => P (σ'.set i none) H') := fun σ F H ok env => k _ F H ok env.drop
theorem we_xf {a d C : Addr} {f : Str} {te : TE} {fs : List (Str × Vp)} {q : Vp} (w : We fr Γ Θ te fun p Θ1 => p = zExc a d fs ∧ fs.lookup f = some q ∧ K q Θ1) : We fr Γ Θ (tXf a (.ref C) (some d) C f te) K := fun σ F H ok env Q k =>
  w σ F H ok env _ fun p Θ1 ⟨e, hl, kk⟩ v F1 H1 s1 ok1 hp => by
    subst e
    obtain ⟨h1, us, h2, h3⟩ := hp
    obtain ⟨u, h4, h5⟩ := h3.look hl
    exact ⟨h1, rfl, d, us, u, rfl, ok1.fh _ _ h2, h4, k q Θ1 kk u F1 H1 s1 ok1 h5⟩
def FldR (Kf : PySem.W.Frag) (f : Str) (p q : Vp) : Prop := ∀ F v, p.p F v → ∃ a C dx fs u, v = .ref a ∧ F a = some (.ins C dx fs) ∧ Cls Kf C ∧ NoAttr Kf C f ∧ fs.lookup f = some u ∧ q.p F u
/-- the field f of p is q -/
def FldP (fr : Fr) (Θ : List Cel) (Kf : PySem.W.Frag) (f : Str) (p q : Vp) : Prop := ∀ F H v, OkF fr Θ F H → p.p F v → ∃ a C dx fs u, v = .ref a ∧ H a = some (.ins C dx fs) ∧ Cls Kf C ∧ NoAttr Kf C f ∧ fs.lookup f = some u ∧ q.p F u
theorem FldR.p {Kf : PySem.W.Frag} {f : Str} {p q : Vp} (h : FldR Kf f p q) : FldP fr Θ Kf f p q := fun F H v ok hv => by
  obtain ⟨a, C, dx, fs, u, h1, h2, h3, h4, h5, h6⟩ := h F v hv
  exact ⟨a, C, dx, fs, u, h1, ok.fh _ _ h2, h3, h4, h5, h6⟩
theorem we_fld {Kf : PySem.W.Frag} {f : Str} {ta : TE} (w : We fr Γ Θ ta fun p Θ1 => ∃ q, FldP fr Θ1 Kf f p q ∧ K q Θ1) : We fr Γ Θ (tFld Kf ta f) K := fun σ F H ok env Q k =>
  w σ F H ok env _ fun p Θ1 ⟨q, hf, kk⟩ v F1 H1 s1 ok1 hp => by
    obtain ⟨a, C, dx, fs, u, h1, h2, h3, h4, h5, h6⟩ := hf F1 H1 v ok1 hp
    exact ⟨a, C, dx, fs, u, h1, h2, h3, h4, h5, k q Θ1 kk u F1 H1 s1 ok1 h6⟩
class Dat {α : Type} (r : Rep α) where
  enc : α → PyData
  dep : Nat
  dp : ∀ {Kf : PySem.W.Frag} {F : Hp} {v : V} {x : α}, r.p F v x → Dp Kf F v (enc x)
  ok : ∀ {F : Hp} {v : V} {x : α}, r.p F v x → nb (enc x) = true
  dl : ∀ x : α, (enc x).depth ≤ dep
  inj : ∀ {x y : α}, enc x = enc y → x = y
instance : Dat zI := ⟨PyData.int, 0, fun h => by cases (show _ = V.int _ from h); exact .int _, fun _ => rfl, fun _ => by simp [PyData.depth], fun h => PyData.int.inj h⟩
instance : Dat zS := ⟨PyData.str, 0, fun h => by cases h.1; exact .str _, fun h => h.2.ok, fun _ => by simp [PyData.depth], fun h => PyData.str.inj h⟩
theorem map_inj' {α β : Type} {f : α → β} (hf : ∀ x y, f x = f y → x = y) : ∀ {l m : List α}, l.map f = m.map f → l = m
  | [], [], _ => rfl
  | [], _ :: _, h => by cases h
  | _ :: _, [], h => by cases h
  | a :: l, b :: m, h => by
    rw [List.map_cons, List.map_cons, List.cons.injEq] at h
    rw [hf _ _ h.1, map_inj' hf h.2]
theorem dat_all {α : Type} {r : Rep α} [d : Dat r] {Kf : PySem.W.Frag} {vs : List V} {xs : List α} (h : PVs r F vs xs) : DpAll Kf F vs (xs.map d.enc) := by
  induction h with
  | nil => exact .nil
  | cons a _ ih => exact .cons (d.dp a) ih
theorem dat_nb {α : Type} {r : Rep α} [d : Dat r] {vs : List V} {xs : List α} (h : PVs r F vs xs) : nbAll (xs.map d.enc) = true := by
  induction h with
  | nil => rfl
  | cons a _ ih => show (nb _ && nbAll _) = true; rw [d.ok a, ih]; rfl
theorem dat_dep {α : Type} {r : Rep α} [d : Dat r] (xs : List α) : PyData.depthAll (xs.map d.enc) ≤ d.dep := depthAll_le fun y hy => by
  obtain ⟨x, _, rfl⟩ := List.mem_map.mp hy
  exact d.dl x
instance {α : Type} {r : Rep α} [d : Dat r] : Dat (zL r) := ⟨fun xs => .list (xs.map d.enc), d.dep + 1, fun ⟨a, vs, h1, h2, h3⟩ => by subst h1; exact .lst (SqL.of h2) (dat_all h3), fun ⟨a, vs, h1, h2, h3⟩ => dat_nb h3, fun xs => by
  have := dat_dep (r := r) xs
  simp only [PyData.depth]
  omega, fun h => map_inj' (fun _ _ => d.inj) (PyData.list.inj h)⟩
instance {α : Type} [TNar α] {r : Rep α} [d : Dat r] : Dat (zT r) := ⟨fun xs => .tuple (xs.map d.enc), d.dep + 1, fun ⟨a, vs, h1, h2, h3⟩ => by subst h1; exact .tup (h2.sq (Same.refl _)) (dat_all h3), fun ⟨a, vs, h1, h2, h3⟩ => dat_nb h3, fun xs => by
  have := dat_dep (r := r) xs
  simp only [PyData.depth]
  omega, fun h => map_inj' (fun _ _ => d.inj) (PyData.tuple.inj h)⟩
instance {α β : Type} {r : Rep α} {s : Rep β} [d : Dat r] [e : Dat s] : Dat (z2 r s) := ⟨fun x => .tuple [d.enc x.1, e.enc x.2], d.dep + e.dep + 1, fun ⟨a, u, w, h1, h2, h3, h4⟩ => by subst h1; exact .tup (SqT.of h2) (.cons (d.dp h3) (.cons (e.dp h4) .nil)),
  fun ⟨a, u, w, h1, h2, h3, h4⟩ => by show (nb _ && (nb _ && true)) = true; rw [d.ok h3, e.ok h4]; rfl, fun x => by
    have h1 := d.dl x.1
    have h2 := e.dl x.2
    simp only [PyData.depth, PyData.depthAll]
    omega, fun {x y} h => by
    have h := PyData.tuple.inj h
    rw [List.cons.injEq, List.cons.injEq] at h
    exact Prod.ext (d.inj h.1) (e.inj h.2.1)⟩
instance {α β γ : Type} {r : Rep α} {s : Rep β} {t : Rep γ} [d : Dat r] [e : Dat s] [f : Dat t] : Dat (z3 r s t) := ⟨fun x => .tuple [d.enc x.1, e.enc x.2.1, f.enc x.2.2], d.dep + e.dep + f.dep + 1, fun ⟨a, u, w, z, h1, h2, h3, h4, h5⟩ => by subst h1; exact .tup (SqT.of h2) (.cons (d.dp h3) (.cons (e.dp h4) (.cons (f.dp h5) .nil))),
  fun ⟨a, u, w, z, h1, h2, h3, h4, h5⟩ => by show (nb _ && (nb _ && (nb _ && true))) = true; rw [d.ok h3, e.ok h4, f.ok h5]; rfl, fun x => by
    have h1 := d.dl x.1
    have h2 := e.dl x.2.1
    have h3 := f.dl x.2.2
    simp only [PyData.depth, PyData.depthAll]
    omega, fun {x y} h => by
    have h := PyData.tuple.inj h
    rw [List.cons.injEq, List.cons.injEq, List.cons.injEq] at h
    exact Prod.ext (d.inj h.1) (Prod.ext (e.inj h.2.1) (f.inj h.2.2.1))⟩
theorem dat_eqv {α : Type} [DecidableEq α] {r : Rep α} [d : Dat r] {v w : V} {x y : α} (hv : r.p F v x) (hw : r.p F w y) : PyData.eqv (d.enc x) (d.enc y) = decide (x = y) := by
  have h := eqv_nb (d.enc x) (d.enc y) (d.ok hv) (d.ok hw)
  by_cases e : x = y
  · rw [decide_eq_true e, h, e]
  · rw [decide_eq_false e]
    cases q : PyData.eqv (d.enc x) (d.enc y) with
    | false => rfl
    | true => exact absurd (d.inj (h.mp q)) e
theorem Dp.up {Kf : PySem.W.Frag} {v : V} {d : PyData} (h : Dp Kf F v d) (e : Same F H) : Dp Kf H v d := Dp.keep e d v h
theorem ops_eqD {Kf : PySem.W.Frag} {α : Type} [DecidableEq α] {r : Rep α} [d : Dat r] {x y : α} (hd : d.dep ≤ 64) (k : K (iz zB (decide (x = y))) Θ) : Ops fr Θ (rEqD Kf) (iz r x) (iz r y) K := fun F H v w ok hv hw Q q => by
  refine ⟨d.enc x, d.enc y, (d.dp hv).up ok.fh, (d.dp hw).up ok.fh, shaped_of (d.ok hv) (Nat.le_trans (d.dl x) hd), shaped_of (d.ok hw) (Nat.le_trans (d.dl y) hd), ?_⟩
  rw [dat_eqv (r := r) hv hw]
  exact q.go k ok rfl
theorem ops_neD {Kf : PySem.W.Frag} {α : Type} [DecidableEq α] {r : Rep α} [d : Dat r] {x y : α} (hd : d.dep ≤ 64) (k : K (iz zB (!decide (x = y))) Θ) : Ops fr Θ (rNeD Kf) (iz r x) (iz r y) K := fun F H v w ok hv hw Q q => by
  refine ⟨d.enc x, d.enc y, (d.dp hv).up ok.fh, (d.dp hw).up ok.fh, shaped_of (d.ok hv) (Nat.le_trans (d.dl x) hd), shaped_of (d.ok hw) (Nat.le_trans (d.dl y) hd), ?_⟩
  rw [dat_eqv (r := r) hv hw]
  exact q.go k ok rfl
end
end L2
set_option Elab.async false
set_option linter.all false
set_option maxRecDepth 100000
set_option maxHeartbeats 4000000
namespace L2
open PySem PySem.Spec PyProof.Rows PySem.HErr
def KVs {α : Type} (r : Rep α) (F : Hp) (kvs : List (Key × V)) (rows : List (Str × α)) : Prop := Paired (fun (kv : Key × V) (x : Str × α) => kv.1 = Sum.inr x.1 ∧ r.p F kv.2 x.2) kvs rows
theorem KVs.mono {α : Type} {r : Rep α} {F F' : Hp} {kvs : List (Key × V)} {rows : List (Str × α)} (h : KVs r F kvs rows) (e : Same F F') : KVs r F' kvs rows := Paired.imp2 (fun _ _ ⟨h1, h2⟩ => ⟨h1, r.mono e h2⟩) h
/-- a dict from texts, frozen -/
def zD {α : Type} (r : Rep α) : Rep (List (Str × α)) := ⟨fun F v rows => ∃ a kvs, v = .ref a ∧ F a = some (.dK kvs) ∧ KVs r F kvs rows, fun e ⟨a, kvs, h1, h2, h3⟩ => ⟨a, kvs, h1, e _ _ h2, h3.mono e⟩⟩
/-- the value by a key -/
def getR {α : Type} (rows : List (Str × α)) (n : Str) : Option α := (rows.find? fun x => decide (x.1 = n)).map (·.2)
section
variable {fr : Fr} {Γ Γ' : Gam} {Θ : List Cel} {F F' H H' : Hp} {K : Vp → List Cel → Prop} {Q : VK}
theorem KVs.val {α : Type} {r : Rep α} {n : Str} : ∀ {kvs : List (Key × V)} {rows : List (Str × α)}, KVs r F kvs rows → (∀ x, getR rows n = some x → ∃ u, valV kvs (Sum.inr n) = some u ∧ r.p F u x) ∧ (getR rows n = none → valV kvs (Sum.inr n) = none)
  | _, _, .nil => ⟨(fun x h => by cases h), fun _ => rfl⟩
  | kv :: kvs, (a, y) :: rows, .cons ⟨h1, h2⟩ hr => by
    have h1 : kv.1 = Sum.inr a := h1
    obtain ⟨ih1, ih2⟩ := KVs.val (n := n) hr
    by_cases e : a = n
    · subst e
      have e2 : getR ((a, y) :: rows) a = some y := by unfold getR; simp
      refine ⟨fun x hx => ?_, fun hx => ?_⟩
      · rw [e2] at hx
        cases hx
        exact ⟨kv.2, by rw [valV_pos h1], h2⟩
      · rw [e2] at hx
        cases hx
    · have e2 : getR ((a, y) :: rows) n = getR rows n := by unfold getR; simp [e]
      have hk : ¬ kv.1 = Sum.inr n := fun q => by rw [h1] at q; exact e (Sum.inr.inj q)
      rw [e2, valV_neg hk]
      exact ⟨ih1, ih2⟩
/-- a dict to be read -/
def DicP {α : Type} (fr : Fr) (Θ : List Cel) (p : Vp) (r : Rep α) (rows : List (Str × α)) : Prop := ∀ F H v, OkF fr Θ F H → p.p F v → ∃ a kvs, v = .ref a ∧ H a = some (.dK kvs) ∧ KVs r F kvs rows
theorem dic_D {α : Type} {r : Rep α} {rows : List (Str × α)} : DicP fr Θ (iz (zD r) rows) r rows := fun F H v ok ⟨a, kvs, h1, h2, h3⟩ => ⟨a, kvs, h1, ok.fh _ _ h2, h3⟩
theorem we_dget {td ty : TE} (w : We fr Γ Θ td fun p Θ1 => We fr Γ Θ1 ty fun q Θ2 => ∃ (α : Type) (r : Rep α) (rows : List (Str × α)) (n : Str) (x : α), DicP fr Θ2 p r rows ∧ q = iz zS n ∧ getR rows n = some x ∧ K (iz r x) Θ2) : We fr Γ Θ (tDGet td ty) K := fun σ F H ok env Q q =>
  w σ F H ok env _ fun p Θ1 k v F1 H1 s1 ok1 hp => k σ F1 H1 ok1 (env.mono s1) _ fun p2 Θ2 ⟨α, r, rows, n, x, hd, e, hx, kk⟩ v2 F2 H2 s2 ok2 hp2 => by
    subst e
    obtain ⟨a, kvs, h1, h2, h3⟩ := hd F2 H2 v ok2 (p.mono s2 hp)
    obtain ⟨u, hu, hr⟩ := h3.val.1 x hx
    exact ⟨a, u, h1, .inl ⟨kvs, Sum.inr n, .inl h2, hp2.1, hu.symm⟩, q _ _ kk u F2 H2 (s1.trans s2) ok2 hr⟩
theorem opt_some {α : Type} {r : Rep α} {rows : List (Str × α)} {kvs : List (Key × V)} {n : Str} (h3 : KVs r F kvs rows) : (valV kvs (Sum.inr n)).isSome = (getR rows n).isSome := by
  cases e : getR rows n with
  | none => rw [h3.val.2 e]; rfl
  | some x =>
    obtain ⟨u, hu, _⟩ := h3.val.1 x e
    rw [hu]
    rfl
theorem we_din {td ty : TE} (w : We fr Γ Θ ty fun q Θ1 => We fr Γ Θ1 td fun p Θ2 => ∃ (α : Type) (r : Rep α) (rows : List (Str × α)) (n : Str), DicP fr Θ2 p r rows ∧ q = iz zS n ∧ K (iz zB (getR rows n).isSome) Θ2) : We fr Γ Θ (tDIn ty td) K := fun σ F H ok env Q q =>
  w σ F H ok env _ fun p Θ1 k v F1 H1 s1 ok1 hp => k σ F1 H1 ok1 (env.mono s1) _ fun p2 Θ2 ⟨α, r, rows, n, hd, e, kk⟩ v2 F2 H2 s2 ok2 hp2 => by
    subst e
    obtain ⟨a, kvs, h1, h2, h3⟩ := hd F2 H2 v2 ok2 hp2
    refine ⟨a, _, h1, .inl ⟨kvs, Sum.inr n, .inl h2, hp.1, rfl⟩, q _ _ kk _ F2 H2 (s1.trans s2) ok2 ?_⟩
    show _ = V.bl _
    rw [opt_some h3]
theorem we_dnin {td ty : TE} (w : We fr Γ Θ ty fun q Θ1 => We fr Γ Θ1 td fun p Θ2 => ∃ (α : Type) (r : Rep α) (rows : List (Str × α)) (n : Str), DicP fr Θ2 p r rows ∧ q = iz zS n ∧ K (iz zB (!(getR rows n).isSome)) Θ2) : We fr Γ Θ (tDNotIn ty td) K := fun σ F H ok env Q q =>
  w σ F H ok env _ fun p Θ1 k v F1 H1 s1 ok1 hp => k σ F1 H1 ok1 (env.mono s1) _ fun p2 Θ2 ⟨α, r, rows, n, hd, e, kk⟩ v2 F2 H2 s2 ok2 hp2 => by
    subst e
    obtain ⟨a, kvs, h1, h2, h3⟩ := hd F2 H2 v2 ok2 hp2
    refine ⟨a, _, h1, .inl ⟨kvs, Sum.inr n, .inl h2, hp.1, rfl⟩, q _ _ kk _ F2 H2 (s1.trans s2) ok2 ?_⟩
    show _ = V.bl _
    rw [opt_some h3]
def putR {α : Type} (rows : List (Str × α)) (n : Str) (x : α) : List (Str × α) := if n ∈ rows.map (·.1) then rows.map fun y => if y.1 = n then (y.1, x) else y else rows ++ [(n, x)]
theorem KVs.put {α : Type} {r : Rep α} {kvs : List (Key × V)} {rows : List (Str × α)} {n : Str} {x : α} {u : V} (h : KVs r F kvs rows) (hu : r.p F u x) : KVs r F (putK kvs (Sum.inr n) u) (putR rows n x) := by
  have hk : (kvs.any fun kv => decide (kv.1 = Sum.inr n)) = decide (n ∈ rows.map (·.1)) := by
    induction h with
    | nil => rfl
    | cons a b ih =>
      rename_i kv y kvs rows
      rw [List.any_cons, ih, a.1, List.map_cons]
      by_cases e : y.1 = n
      · rw [decide_eq_true (by rw [e]), Bool.true_or, decide_eq_true (by rw [e]; exact List.mem_cons_self ..)]
      · rw [decide_eq_false (fun q => e (Sum.inr.inj q)), Bool.false_or]
        by_cases e2 : n ∈ rows.map (·.1)
        · rw [decide_eq_true e2, decide_eq_true (List.mem_cons_of_mem _ e2)]
        · rw [decide_eq_false e2, decide_eq_false fun q => (List.mem_cons.mp q).elim (fun q => e q.symm) e2]
  unfold putK putR
  by_cases e : n ∈ rows.map (·.1)
  · rw [if_pos e, if_pos (by rw [hk]; exact decide_eq_true e)]
    clear hk e
    induction h with
    | nil => exact .nil
    | cons a b ih =>
      refine .cons ?_ ih
      rename_i kv y kvs rows
      dsimp only
      by_cases e : y.1 = n
      · rw [if_pos e, if_pos (by rw [a.1, e])]
        exact ⟨a.1, hu⟩
      · rw [if_neg e, if_neg (fun q => e (Sum.inr.inj (a.1.symm.trans q)))]
        exact a
  · rw [if_neg e, if_neg (by rw [hk]; simpa using e)]
    exact PySem.Paired.snoc h ⟨rfl, hu⟩
end
structure PlanOk (d : PlanD) : Prop where
  pa : ∀ y ∈ d.places, Wd y
  pn : d.places.Nodup
  bl : d.begin.length = d.places.length
  bn : ∀ n ∈ d.begin, 0 ≤ n ∧ n ≤ 99
  st : ∀ r ∈ d.steps, Wd r.1 ∧ r.2.1 ≠ [] ∧ inOrd d.places r.2.1 = r.2.1 ∧ inOrd d.places r.2.2 = r.2.2
  sn : d.names.Nodup
  p12 : d.places.length ≤ 12
  s16 : d.steps.length ≤ 16
theorem inOrd_sub {ps ns : List Str} {y : Str} (h : y ∈ inOrd ps ns) : y ∈ ps ∧ y ∈ ns := by
  unfold inOrd at h
  obtain ⟨h1, h2⟩ := List.mem_filter.mp h
  exact ⟨h1, of_decide_eq_true h2⟩
theorem PlanOk.tk {d : PlanD} (h : PlanOk d) {r : SRow} (hr : r ∈ d.steps) {y : Str} (hy : y ∈ r.2.1) : y ∈ d.places := by
  rw [← (h.st r hr).2.2.1] at hy
  exact (inOrd_sub hy).1
theorem PlanOk.gv {d : PlanD} (h : PlanOk d) {r : SRow} (hr : r ∈ d.steps) {y : Str} (hy : y ∈ r.2.2) : y ∈ d.places := by
  rw [← (h.st r hr).2.2.2] at hy
  exact (inOrd_sub hy).1
def zPlan (C : Addr) : Rep PlanD := ⟨fun F v d => ∃ x, v = .ref x ∧ PlanAt F C x d ∧ PlanOk d, fun e ⟨x, h1, h2, h3⟩ => ⟨x, h1, h2.keep e, h3⟩⟩
def PlanD.tk (d : PlanD) : List (Str × List Str) := d.steps.map fun s => (s.1, s.2.1)
def PlanD.gv (d : PlanD) : List (Str × List Str) := d.steps.map fun s => (s.1, s.2.2)
section
variable {fr : Fr} {Γ Γ' : Gam} {Θ : List Cel} {F F' H H' : Hp} {K : PySem.W.Frag} {C : Addr} {d : PlanD}
theorem strs_pvs {ws : List Str} (h : ∀ y ∈ ws, Asc y) : PVs zS F (ws.map V.str) ws := by
  induction ws with
  | nil => exact .nil
  | cons a ws ih => exact .cons ⟨rfl, h a (List.mem_cons_self ..)⟩ (ih fun y hy => h y (List.mem_cons_of_mem _ hy))
theorem ints_pvs {ws : List Int} : PVs zI F (ws.map V.int) ws := by
  induction ws with
  | nil => exact .nil
  | cons a ws ih => exact .cons rfl ih
theorem tab_kvs : ∀ {kvs : List (Key × V)} {rows : List (Str × List Str)}, TabAt F kvs rows → (∀ r ∈ rows, ∀ y ∈ r.2, Asc y) → KVs (zT zS) F kvs rows
  | _, _, .nil, _ => .nil
  | _, _, .cons ⟨h1, t, h2, h3⟩ r, h => .cons ⟨h1, t, _, h2, .inl h3, strs_pvs (h _ (List.mem_cons_self ..))⟩ (tab_kvs r fun r' hr => h r' (List.mem_cons_of_mem _ hr))
/-- the class Plan, as the top left it -/
structure PlanK (K : PySem.W.Frag) (C : Addr) : Prop where
  cl : Cls K C
  nP : NoAttr K C "places"
  nB : NoAttr K C "begin"
  nT : NoAttr K C "taken"
  nG : NoAttr K C "given"
  nS : NoAttr K C "steps"
theorem fld_places (T : PlanK K C) : FldR K "places" (iz (zPlan C) d) (iz (zT zS) d.places) := fun F v ⟨x, h1, h2, h3⟩ => by
  obtain ⟨dx, tp, tb, td, tg, ts, kt, kg, p1, p2, p3, p4, p5, p6, p7, p8⟩ := h2.ex
  exact ⟨x, C, dx, _, _, h1, p1, T.cl, T.nP, rfl, tp, _, rfl, p2.tb, strs_pvs fun y hy => (h3.pa y hy).asc⟩
theorem fld_begin (T : PlanK K C) : FldR K "begin" (iz (zPlan C) d) (iz (zT zI) d.begin) := fun F v ⟨x, h1, h2, h3⟩ => by
  obtain ⟨dx, tp, tb, td, tg, ts, kt, kg, p1, p2, p3, p4, p5, p6, p7, p8⟩ := h2.ex
  exact ⟨x, C, dx, _, _, h1, p1, T.cl, T.nB, rfl, tb, _, rfl, .inl p3, ints_pvs⟩
theorem fld_steps (T : PlanK K C) : FldR K "steps" (iz (zPlan C) d) (iz (zT zS) d.names) := fun F v ⟨x, h1, h2, h3⟩ => by
  obtain ⟨dx, tp, tb, td, tg, ts, kt, kg, p1, p2, p3, p4, p5, p6, p7, p8⟩ := h2.ex
  refine ⟨x, C, dx, _, _, h1, p1, T.cl, T.nS, rfl, ts, _, rfl, p6, strs_pvs fun y hy => ?_⟩
  obtain ⟨r, hr, rfl⟩ := List.mem_map.mp hy
  exact (h3.st r hr).1.asc
theorem fld_taken (T : PlanK K C) : FldR K "taken" (iz (zPlan C) d) (iz (zD (zT zS)) d.tk) := fun F v ⟨x, h1, h2, h3⟩ => by
  obtain ⟨dx, tp, tb, td, tg, ts, kt, kg, p1, p2, p3, p4, p5, p6, p7, p8⟩ := h2.ex
  refine ⟨x, C, dx, _, _, h1, p1, T.cl, T.nT, rfl, td, kt, rfl, p4, tab_kvs p7 fun r hr y hy => ?_⟩
  obtain ⟨s, hs, rfl⟩ := List.mem_map.mp hr
  exact (h3.pa y (h3.tk hs hy)).asc
theorem fld_given (T : PlanK K C) : FldR K "given" (iz (zPlan C) d) (iz (zD (zT zS)) d.gv) := fun F v ⟨x, h1, h2, h3⟩ => by
  obtain ⟨dx, tp, tb, td, tg, ts, kt, kg, p1, p2, p3, p4, p5, p6, p7, p8⟩ := h2.ex
  refine ⟨x, C, dx, _, _, h1, p1, T.cl, T.nG, rfl, tg, kg, rfl, p5, tab_kvs p8 fun r hr y hy => ?_⟩
  obtain ⟨s, hs, rfl⟩ := List.mem_map.mp hr
  exact (h3.pa y (h3.gv hs hy)).asc
/-- a plan is an instance; none of these is a field of it -/
theorem ins_plan {m : Str} (hm : ([("places", (0 : Nat)), ("begin", 0), ("taken", 0), ("given", 0), ("steps", 0)] : List (Str × Nat)).lookup m = none) : InsP fr Θ (iz (zPlan C) d) C m := fun F H v ok ⟨x, h1, h2, h3⟩ => by
  obtain ⟨dx, tp, tb, td, tg, ts, kt, kg, p1, p2, p3, p4, p5, p6, p7, p8⟩ := h2.ex
  refine ⟨x, dx, _, h1, ok.fh _ _ p1, ?_⟩
  simp only [List.lookup_cons] at hm ⊢
  revert hm
  cases (m == ("places" : Str)) <;> cases (m == ("begin" : Str)) <;> cases (m == ("taken" : Str)) <;> cases (m == ("given" : Str)) <;> cases (m == ("steps" : Str)) <;> simp
/-- all that is new is frozen -/
def newF (F H H' : Hp) : Hp := fun a => match H a with
  | none => H' a
  | some _ => F a
theorem newF_of (fh : Same F H) (hh : Same H H') : Same F (newF F H H') ∧ Same (newF F H H') H' ∧ Newer F H (newF F H H') := by
  refine ⟨fun a o h => ?_, fun a o h => ?_, fun a o h => ?_⟩
  · unfold newF
    rw [fh a o h]
    exact h
  · unfold newF at h
    cases q : H a with
    | none => rw [q] at h; exact h
    | some u => rw [q] at h; exact hh _ _ (fh _ _ h)
  · unfold newF at h
    cases q : H a with
    | none => exact .inr (.inl q)
    | some u => rw [q] at h; exact .inl ⟨o, h⟩
end
/-- the class Plan and its name -/
structure PlanC (K : PySem.W.Frag) (mg : Str → Option Value) (C : Addr) : Prop where
  cl : Cls K C
  gC : mg "Plan" = some (.ref C)
  nP : NoAttr K C "places"
  nB : NoAttr K C "begin"
  nT : NoAttr K C "taken"
  nG : NoAttr K C "given"
  nS : NoAttr K C "steps"
section
variable {K : PySem.W.Frag} {mg : Str → Option Value} {C : Addr} {fr : Fr} {Θ : List Cel} {d : PlanD}
theorem PlanC.k (T : PlanC K mg C) : PlanK K C := ⟨T.cl, T.nP, T.nB, T.nT, T.nG, T.nS⟩
theorem fldP_places (T : PlanC K mg C) : FldP fr Θ K "places" (iz (zPlan C) d) (iz (zT zS) d.places) := (fld_places T.k).p
theorem fldP_begin (T : PlanC K mg C) : FldP fr Θ K "begin" (iz (zPlan C) d) (iz (zT zI) d.begin) := (fld_begin T.k).p
theorem fldP_steps (T : PlanC K mg C) : FldP fr Θ K "steps" (iz (zPlan C) d) (iz (zT zS) d.names) := (fld_steps T.k).p
theorem fldP_taken (T : PlanC K mg C) : FldP fr Θ K "taken" (iz (zPlan C) d) (iz (zD (zT zS)) d.tk) := (fld_taken T.k).p
theorem fldP_given (T : PlanC K mg C) : FldP fr Θ K "given" (iz (zPlan C) d) (iz (zD (zT zS)) d.gv) := (fld_given T.k).p
end
theorem is_var {fr : Fr} {Γ : Gam} {Θ : List Cel} {K : Vp → List Cel → Prop} {i : Nat} (h : We fr Γ Θ (tVar i) K) : We fr Γ Θ (tVar i) K := h
theorem is_cS {fr : Fr} {Γ : Gam} {Θ : List Cel} {K : Vp → List Cel → Prop} {z : Str} (h : We fr Γ Θ (tC (.str z)) K) : We fr Γ Θ (tC (.str z)) K := h
theorem asc_of {z : Str} (h : (z.cps.toList.all fun c => decide (c < 128)) = true) : Asc z := fun c hc => of_decide_eq_true (List.all_eq_true.mp h c hc)
end L2
set_option Elab.async false
set_option linter.all false
set_option maxRecDepth 100000
set_option maxHeartbeats 4000000
namespace L2
open PySem PySem.Spec PyProof.Rows PySem.HErr
section
variable {fr : Fr} {Γ Γ' : Gam} {Θ : List Cel} {F F' H H' : Hp} {K : Vp → List Cel → Prop} {Q : VK}
theorem wipe_sub {σ σ' : L2.St} {vs us : List Nat} (h : L2.wipe σ' vs = L2.wipe σ vs) (hs : ∀ v ∈ vs, v ∈ us) : L2.wipe σ' us = L2.wipe σ us := by
  have hl : σ'.length = σ.length := by
    have := congrArg List.length h
    rw [wipe_length, wipe_length] at this
    exact this
  apply List.ext_getElem?
  intro j
  have hj : (L2.wipe σ' vs)[j]? = (L2.wipe σ vs)[j]? := by rw [h]
  rw [wipe_get, wipe_get] at hj ⊢
  rw [hl] at hj ⊢
  by_cases h1 : j ∈ us ∧ j < σ.length
  · rw [if_pos h1, if_pos h1]
  · rw [if_neg h1, if_neg h1]
    have h2 : ¬ (j ∈ vs ∧ j < σ.length) := fun q => h1 ⟨hs j q.1, q.2⟩
    rw [if_neg h2, if_neg h2] at hj
    exact hj
theorem TgR.sub {g : TG} {vs us : List Nat} {p : Vp} (h : TgR g vs p Γ Γ') (hs : ∀ v ∈ vs, v ∈ us) : TgR g us p Γ Γ' := fun σ F H v fh env hp Q q => h σ F H v fh env hp Q fun σ' e hw => q σ' e (wipe_sub hw hs)
end
end L2
set_option Elab.async false
set_option linter.all false
set_option maxRecDepth 100000
set_option maxHeartbeats 4000000
namespace L2
open PySem PySem.Spec PyProof.Rows PySem.HErr
section
variable {fr : Fr} {Γ Γ' : Gam} {Θ Θ' : List Cel} {F F' H H' : Hp} {K : Vp → List Cel → Prop} {Q : VK}
theorem OkF.perm (k : OkF fr Θ F H) (p : Θ.Perm Θ') : OkF fr Θ' F H := ⟨k.fh, k.f0, k.nw, k.h0, k.al, (p.map Cel.a).nodup_iff.mp k.nd, fun c hc => k.ce c (p.mem_iff.mpr hc)⟩
theorem Kn.perm {P : L2.St → Hp → Prop} (k : Kn fr Γ Θ' P) (p : Θ.Perm Θ') : Kn fr Γ Θ P := fun σ F H ok env => k σ F H (ok.perm p) env
end
end L2
set_option Elab.async false
set_option linter.all false
set_option maxRecDepth 100000
set_option maxHeartbeats 4000000
namespace L2
open PySem PySem.Spec PyProof.Rows PySem.HErr
/-- an instance of one's own -/
def cI (a C dx : Addr) (fs : List (Str × Vp)) : Cel := ⟨a, true, fun F o => ∃ us, o = .ins C dx us ∧ FsOk F fs us, fun e ⟨us, h1, h2⟩ => ⟨us, h1, h2.mono e⟩, fun h e => by subst e; simp at h⟩
def putP (f : Str) (p : Vp) : List (Str × Vp) → List (Str × Vp)
  | [] => [(f, p)]
  | (g, q) :: r => if g = f then (g, p) :: r else (g, q) :: putP f p r
section
variable {fr : Fr} {Γ Γ' : Gam} {Θ Θ' : List Cel} {F F' H H' : Hp} {K : Vp → List Cel → Prop} {Q : VK}
theorem FsOk.put {f : Str} {p : Vp} {v : V} (hp : p.p F v) : ∀ {fs : List (Str × Vp)} {us : List (Str × V)}, FsOk F fs us → FsOk F (putP f p fs) (putF f v us)
  | _, _, .nil => .cons ⟨rfl, hp⟩ .nil
  | (g, q) :: fs, (g', u) :: us, .cons ⟨h1, h2⟩ r => by
    have h1 : g = g' := h1
    subst h1
    unfold putP putF
    by_cases e : g = f
    · rw [if_pos e, if_pos e]
      exact .cons ⟨rfl, hp⟩ r
    · rw [if_neg e, if_neg e]
      exact .cons ⟨rfl, h2⟩ (FsOk.put hp r)
/-- self.f = e -/
theorem kn_fldPut {Kf : PySem.W.Frag} {f : Str} {ta tv : TE} {D : Ends} (w : We fr Γ Θ tv fun p Θ1 => We fr Γ Θ1 ta fun q Θ2 => ∃ a C dx fs j, q = zAt a ∧ Θ2[j]? = some (cI a C dx fs) ∧ Cls Kf C ∧ NoAttr Kf C f ∧ fs.length < 1000 ∧ Kn fr Γ (Θ2.set j (cI a C dx (putP f p fs))) D.nx) : Kn fr Γ Θ (sFld Kf ta tv f D) := fun σ F H ok env =>
  w σ F H ok env _ fun p Θ1 k v F1 H1 s1 ok1 hp => k σ F1 H1 ok1 (env.mono s1) _ fun p2 Θ2 ⟨a, C, dx, fs, j, e, hj, hc, hn, hl, kk⟩ v2 F2 H2 s2 ok2 hp2 => by
    subst e
    obtain ⟨_, ⟨o, h2, us, rfl, h4⟩, _⟩ := ok2.ce _ (List.mem_of_getElem? hj)
    exact ⟨a, C, dx, us, hp2, h2, hc, hn, by rw [← Paired.len h4]; exact hl, kk σ F2 _ (ok2.mut hj rfl rfl ⟨_, rfl, h4.put (p.mono s2 hp)⟩) ((env.mono s1).mono s2)⟩
def minus (H : Hp) (x : Addr) : Hp := fun a => if a = x then none else H a
theorem minus_ne {x a : Addr} (h : a ≠ x) : minus H x a = H a := if_neg h
theorem minus_self {x : Addr} : minus H x x = none := if_pos rfl
/-- what __init__ promises: out tells what the instance at x then is -/
def spI (C : Addr) (pre : Pre) : Sp := fun vs H Q E => ∃ x dx vs' F ps out err, vs = .ref x :: vs' ∧ H x = some (.ins C dx []) ∧ F x = none ∧ Same F H ∧ Paired (fun (p : Vp) v => p.p F v) ps vs' ∧ pre ps out err ∧
  (∀ p, out p → ∀ F' H', Same (minus H x) H' → Same F F' → Same F' H' → Newer F (minus H x) F' → p.p F' (.ref x) → Q .non H') ∧ (∀ e, err e → ∀ F' H' d us, Same (minus H x) H' → Same F F' → Same F' H' → Newer F (minus H x) F' → F' d = some (.xd us) → FsOk F' e.fs us → E (.ref e.C) (some d) H')
theorem we_mk {C : Addr} {pre : Pre} {E : L2.St → XK} {t : TA} (w : Wa fr Γ Θ t fun ps Θ1 => ∃ out err, pre ps out err ∧ (∀ p, out p → K p Θ1) ∧ ∀ e, err e → Kr fr Γ Θ1 (fun cls d σ H => E σ cls d H) e) : We fr Γ Θ (tMkD C (spI C pre) E t) K := fun σ F H ok env Q q =>
  w σ F H ok env _ fun ps Θ1 ⟨out, err, hp, ko, ke⟩ vs F1 H1 s1 ok1 hps => fun x dx nx ndx ne => by
    have hs : Same H1 (upd (upd H1 dx (.own x)) x (.ins C dx [])) := (same_upd ndx).trans (same_upd (by rw [upd_ne (Ne.symm ne)]; exact nx))
    have hm : ∀ {H' : Hp}, Same (minus (upd (upd H1 dx (.own x)) x (.ins C dx [])) x) H' → Same H1 H' := fun h a o e => h a o (by rw [minus_ne (ne_of_none e nx)]; exact hs a o e)
    have hn : ∀ {F' : Hp}, Newer F1 (minus (upd (upd H1 dx (.own x)) x (.ins C dx [])) x) F' → Newer F1 H1 F' := fun h a o e => by
      rcases h a o e with h' | h'
      · exact .inl h'
      · refine .inr (h'.elim (fun h' => ?_) .inr)
        by_cases ea : a = x
        · rw [ea]; exact .inl nx
        · rw [minus_ne ea] at h'
          exact .inl (hs.free h')
    refine ⟨x, dx, vs, F1, ps, out, err, rfl, upd_same, ok1.fh.free nx, ok1.fh.trans hs, hps, hp, fun p ho F' H' hh ff fh nw hv => ⟨rfl, ?_⟩, fun e he F' H' d us hh ff fh nw hd hf => ?_⟩
    · exact q p Θ1 (ko p ho) _ F' H' (s1.trans ff) (ok1.grow (hm hh) ff fh (hn nw)) hv
    · exact ke e he σ F' H' (ok1.grow (hm hh) ff fh (hn nw)) ((env.mono s1).mono ff) d us hd hf
theorem okf_init {x C dx : Addr} (hx : H x = some (.ins C dx [])) (fx : F x = none) (fh : Same F H) : OkF ⟨F, minus H x, []⟩ [cI x C dx []] F H := by
  refine ⟨fh, Same.refl F, fun a o h => .inl ⟨o, h⟩, fun a o _ h => ?_, fun a o h => ?_, by simp, fun c hc => ?_⟩
  · have h : minus H x a = some o := h
    by_cases e : a = x
    · rw [e, minus_self] at h; cases h
    · rw [minus_ne e] at h; exact h
  · have h : minus H x a = some o := h
    by_cases e : a = x
    · rw [e, minus_self] at h; cases h
    · rw [minus_ne e] at h; exact ⟨o, h⟩
  · rw [List.mem_singleton.mp hc]
    exact ⟨fx, ⟨_, hx, [], rfl, .nil⟩, minus_self⟩
end
section
variable {P : Program} {w : World} {K : PySem.W.Frag} {mg : Str → Option Value} {base : Heap} {qual : Str} {C : Addr} {st : Stmt} {N ps : List Str} {k : Nat} {pre : Pre}
/-- the body of __init__: at its end the instance is what out says -/
theorem SrcI.okAX (F : SrcI K C qual st ps) (S : FnScope N ps (defScope st)) (len : ∀ qs out err, pre qs out err → qs.length + 1 = ps.length)
    (hbody : ∀ (f : Addr) (cdv : Value) (A : Around) (outer : List Env) (s : Shared) (H : Hp) (E : XK) (qs : List Vp) (out : Vp → Prop) (err : Er → Prop), Room k (A.deeper (envOfC qual (defScope st) s.heap.objs.size f cdv)) → pre qs out err →
      ∃ t, PSs (cxOf (L2.CX P w) P w K mg base N qual (defScope st) f cdv A outer s H E) (defBody st) t ∧ ∀ fr x dx (Q : L2.St → Hp → Prop) (rt : VK), (∀ p, out p → ∀ σ F H, (∃ Θ, OkF fr Θ F H) → p.p F (.ref x) → Q σ H) → (∀ p, out p → ∀ F H, (∃ Θ, OkF fr Θ F H) → p.p F (.ref x) → rt .non H) → Rse fr E err →
        Kn fr (envOf N (zAt x :: qs)) [cI x C dx []] (t { nx := Q, rt := rt })) : DefI P w K mg base (L2.CX P w) (k + 1) C ps (spI C pre) := by
  refine F.okX S (fun vs H Q E h => ?_) (fun f cdv A outer s H vs Q E hr h => ?_)
  · obtain ⟨x, dx, vs', F, qs, out, err, rfl, _, _, _, h2, h3, _⟩ := h
    rw [List.length_cons, ← Paired.len h2]
    exact len _ _ _ h3
  · obtain ⟨x, dx, vs', F, qs, out, err, rfl, hx, fx, fh, h2, h3, h4, h5⟩ := h
    obtain ⟨t, ht, hk⟩ := hbody f cdv A outer s H E qs out err hr h3
    have post : ∀ {Θ : List Cel} {F' H' : Hp}, OkF ⟨F, minus H x, []⟩ Θ F' H' → Same (minus H x) H' ∧ Same F F' ∧ Same F' H' ∧ Newer F (minus H x) F' := fun ok => ⟨fun a o h => ok.h0 a o (by simp) h, ok.f0, ok.fh, ok.nw⟩
    have c1 : ∀ p, out p → ∀ (σ : L2.St) F' H', (∃ Θ, OkF ⟨F, minus H x, []⟩ Θ F' H') → p.p F' (.ref x) → Q .non H' := fun p hp σ F' H' ⟨Θ, ok⟩ hv => by
      obtain ⟨a, b, c, d⟩ := post ok
      exact h4 p hp F' H' a b c d hv
    have c2 : Rse ⟨F, minus H x, []⟩ E err := fun e he Θ F' H' d us ok hd hf => by
      obtain ⟨a, b, c, n⟩ := post ok
      exact h5 e he F' H' d us a b c n hd hf
    exact ⟨t, ht, hk ⟨F, minus H x, []⟩ x dx (fun _ H' => Q .non H') Q c1 (fun p hp F' H' => c1 p hp [] F' H') c2 _ F H (okf_init hx fx fh) (env_start (vs := .ref x :: vs') (.cons rfl h2))⟩
end
section
variable {F F' H H' : Hp} {E : XK} {err : Er → Prop}
theorem Post.new {Q : VK} {out : Vp → Prop} {p : Vp} {v : V} (h : Post F H Q out) (fh : Same F H) (hp : out p) (hh : Same H H') (hf : p.p (newF F H H') v) : Q v H' := by
  obtain ⟨n1, n2, n3⟩ := newF_of fh hh
  exact h p hp v _ H' hh n1 n2 n3 hf
end
end L2
set_option Elab.async false
set_option linter.all false
set_option maxRecDepth 100000
set_option maxHeartbeats 4000000
namespace L2
open PySem PySem.Spec PyProof.Rows PySem.HErr
def tagC (c : Cel) : Addr × Bool := (c.a, c.own)
def CellsAt (F H : Hp) (Θ : List Cel) : Prop := (Θ.map Cel.a).Nodup ∧ ∀ c ∈ Θ, F c.a = none ∧ ∃ o, H c.a = some o ∧ c.φ F o
def SameX (as : List Addr) (H H' : Hp) : Prop := ∀ a o, a ∉ as → H a = some o → H' a = some o
def minusL (H : Hp) (as : List Addr) : Hp := fun a => if a ∈ as then none else H a
abbrev PreC := List Vp → List Cel → (Vp → List Cel → Prop) → (Er → List Cel → Prop) → Prop
structure Eff (F H : Hp) (Θ : List Cel) (F' H' : Hp) (Θ' : List Cel) : Prop where
  hh : SameX (Θ.map Cel.a) H H'
  ff : Same F F'
  fh : Same F' H'
  nw : Newer F H F'
  ca : CellsAt F' H' Θ'
  tg : Θ'.map tagC = Θ.map tagC
def spC (pre : PreC) : Sp := fun vs H Q E => ∃ F ps Θ out err, Same F H ∧ CellsAt F H Θ ∧ Paired (fun (p : Vp) v => p.p F v) ps vs ∧ pre ps Θ out err ∧
  (∀ p Θ', out p Θ' → ∀ v F' H', Eff F H Θ F' H' Θ' → p.p F' v → Q v H') ∧ (∀ e Θ', err e Θ' → ∀ F' H' d us, Eff F H Θ F' H' Θ' → F' d = some (.xd us) → FsOk F' e.fs us → E (.ref e.C) (some d) H')
section
variable {fr : Fr} {Γ Γ' : Gam} {Θ Θ' Θl Θr : List Cel} {F F' H H' : Hp} {K : Vp → List Cel → Prop} {Q : VK}
theorem tag_a (h : Θ'.map tagC = Θ.map tagC) : Θ'.map Cel.a = Θ.map Cel.a := by
  have := congrArg (List.map Prod.fst) h
  rw [List.map_map, List.map_map] at this
  exact this
theorem tag_mem (h : Θ'.map tagC = Θ.map tagC) {c : Cel} (hc : c ∈ Θ') : ∃ d ∈ Θ, d.a = c.a ∧ d.own = c.own := by
  have : tagC c ∈ Θ.map tagC := by rw [← h]; exact List.mem_map.mpr ⟨c, hc, rfl⟩
  obtain ⟨d, hd, e⟩ := List.mem_map.mp this
  exact ⟨d, hd, (Prod.mk.inj e).1, (Prod.mk.inj e).2⟩
theorem OkF.cellsAt (k : OkF fr (Θl ++ Θr) F H) : CellsAt F H Θl := by
  have := k.nd
  rw [List.map_append, List.nodup_append] at this
  exact ⟨this.1, fun c hc => by
    obtain ⟨h1, h2, _⟩ := k.ce c (List.mem_append_left _ hc)
    exact ⟨h1, h2⟩⟩
theorem OkF.eff (k : OkF fr (Θl ++ Θr) F H) (e : Eff F H Θl F' H' Θ') : OkF fr (Θ' ++ Θr) F' H' := by
  have ea := tag_a e.tg
  have hB : ∀ c ∈ Θl ++ Θr, ∀ a o, a ∉ fr.B → fr.H0 a = some o → a ≠ c.a := fun c hc a o hb h q => by
    obtain ⟨_, _, h4⟩ := k.ce c hc
    cases ho : c.own with
    | true =>
      rw [if_pos ho] at h4
      rw [q, h4] at h
      cases h
    | false =>
      rw [if_neg (by rw [ho]; exact Bool.false_ne_true)] at h4
      rw [q] at hb
      exact hb h4
  have nl : ∀ a o, a ∉ fr.B → fr.H0 a = some o → a ∉ Θl.map Cel.a := fun a o hb h q => by
    obtain ⟨c, hc, e⟩ := List.mem_map.mp q
    exact hB c (List.mem_append_left _ hc) a o hb h e.symm
  refine ⟨e.fh, k.f0.trans e.ff, fun a o h => ?_, fun a o hb h => ?_, fun a o h => ?_, ?_, fun c hc => ?_⟩
  · exact k.nwr e.ff h (e.nw a o h)
  · exact e.hh a o (nl a o hb h) (k.h0 a o hb h)
  · by_cases q : a ∈ Θl.map Cel.a
    · rw [← ea] at q
      obtain ⟨c, hc, e1⟩ := List.mem_map.mp q
      obtain ⟨_, o', h', _⟩ := e.ca.2 c hc
      exact ⟨o', by rw [← e1]; exact h'⟩
    · obtain ⟨o', h'⟩ := k.al a o h
      exact ⟨o', e.hh a o' q h'⟩
  · rw [List.map_append, ea, ← List.map_append]
    exact k.nd
  · rcases List.mem_append.mp hc with hc | hc
    · obtain ⟨h1, h2⟩ := e.ca.2 c hc
      refine ⟨h1, h2, ?_⟩
      obtain ⟨d, hd, e1, e2⟩ := tag_mem e.tg hc
      have := (k.ce d (List.mem_append_left _ hd)).2.2
      rw [e1, e2] at this
      exact this
    · obtain ⟨h1, ⟨u, h2, h3⟩, h4⟩ := k.ce c (List.mem_append_right _ hc)
      have ne : c.a ∉ Θl.map Cel.a := fun q => by
        have := k.nd
        rw [List.map_append, List.nodup_append] at this
        exact this.2.2 _ q _ (List.mem_map.mpr ⟨c, hc, rfl⟩) rfl
      refine ⟨?_, ⟨u, e.hh _ _ ne h2, c.mono e.ff h3⟩, h4⟩
      cases q : F' c.a with
      | none => rfl
      | some o =>
        rcases e.nw _ _ q with ⟨o', h'⟩ | h' | ⟨vs, ht⟩
        · rw [h1] at h'
          cases h'
        · rw [h2] at h'
          cases h'
        · have e1 := e.fh _ _ q
          rw [e.hh _ _ ne h2] at e1
          exact (c.nt h3 ((Option.some.inj e1).trans ht)).elim
theorem okf_lent (fh : Same F H) (hc : CellsAt F H Θ) (ho : ∀ c ∈ Θ, c.own = true) : OkF ⟨F, minusL H (Θ.map Cel.a), []⟩ Θ F H := by
  refine ⟨fh, Same.refl F, fun a o h => .inl ⟨o, h⟩, fun a o _ h => ?_, fun a o h => ?_, hc.1, fun c hm => ?_⟩
  · have h : minusL H (Θ.map Cel.a) a = some o := h
    unfold minusL at h
    split at h
    · cases h
    · exact h
  · have h : minusL H (Θ.map Cel.a) a = some o := h
    unfold minusL at h
    split at h
    · cases h
    · exact ⟨o, h⟩
  · obtain ⟨h1, h2⟩ := hc.2 c hm
    refine ⟨h1, h2, ?_⟩
    rw [if_pos (ho c hm)]
    show minusL H (Θ.map Cel.a) c.a = none
    unfold minusL
    rw [if_pos (List.mem_map.mpr ⟨c, hm, rfl⟩)]
/-- Θ'' holds the cells Θ' (and others, which are let go) -/
theorem eff_of {Θ'' Θx : List Cel} (hc : CellsAt F H Θ) (ok : OkF ⟨F, minusL H (Θ.map Cel.a), []⟩ Θ'' F' H') (pm : Θ''.Perm (Θ' ++ Θx)) (tg : Θ'.map tagC = Θ.map tagC) : Eff F H Θ F' H' Θ' := by
  refine ⟨fun a o hn h => ok.h0 a o (by simp) ?_, ok.f0, ok.fh, fun a o h => ?_, (ok.perm pm).cellsAt, tg⟩
  · show minusL H (Θ.map Cel.a) a = some o
    unfold minusL
    rw [if_neg hn]
    exact h
  · rcases ok.nw a o h with h' | h' | h'
    · exact .inl h'
    · have h' : minusL H (Θ.map Cel.a) a = none := h'
      unfold minusL at h'
      split at h'
      · rename_i q
        rw [← tag_a tg] at q
        obtain ⟨c, hc', e⟩ := List.mem_map.mp q
        obtain ⟨h1, _⟩ := (ok.perm pm).cellsAt.2 c hc'
        rw [e, h] at h1
        cases h1
      · exact .inr (.inl h')
    · exact .inr (.inr h')
/-- what a def with lent cells returns: the cells Θ' are there then -/
def RetC (fr : Fr) (Q : VK) (tg : List (Addr × Bool)) (out : Vp → List Cel → Prop) : Prop := ∀ p Θ', out p Θ' → Θ'.map tagC = tg → ∀ Θ'' Θx, Θ''.Perm (Θ' ++ Θx) → Rt fr Θ'' Q p
def RseC (fr : Fr) (E : XK) (tg : List (Addr × Bool)) (err : Er → List Cel → Prop) : Prop := ∀ e Θ', err e Θ' → Θ'.map tagC = tg → ∀ Θ'' Θx, Θ''.Perm (Θ' ++ Θx) → ∀ F H d us, OkF fr Θ'' F H → F d = some (.xd us) → FsOk F e.fs us → E (.ref e.C) (some d) H
theorem RetC.fine {fr' : Fr} {tg : List (Addr × Bool)} {out : Vp → List Cel → Prop} (h : RetC fr Q tg out) (l : FrLe fr fr') : RetC fr' Q tg out := fun p Θ' ho ht Θ'' Θx pm => (h p Θ' ho ht Θ'' Θx pm).fine l
theorem RseC.fine {fr' : Fr} {E : XK} {tg : List (Addr × Bool)} {err : Er → List Cel → Prop} (h : RseC fr E tg err) (l : FrLe fr fr') : RseC fr' E tg err := fun e Θ' he ht Θ'' Θx pm F H d us ok => h e Θ' he ht Θ'' Θx pm F H d us (ok.le l)
end
section
variable {P : Program} {w : World} {K : PySem.W.Frag} {mg : Str → Option Value} {base : Heap} {x m qual : Str} {C : Addr} {st : Stmt} {N ps : List Str} {k : Nat} {pre : PreC}
theorem Src.okC (F : Src K mg x st ps) (S : FnScope N ps (defScope st)) (len : ∀ qs Θ out err, pre qs Θ out err → qs.length = ps.length ∧ ∀ c ∈ Θ, c.own = true)
    (hbody : ∀ (f : Addr) (cdv : Value) (A : Around) (outer : List Env) (s : Shared) (H : Hp) (E : XK) (qs : List Vp) (Θ : List Cel) (out : Vp → List Cel → Prop) (err : Er → List Cel → Prop), Room k (A.deeper (envOfC x (defScope st) s.heap.objs.size f cdv)) → pre qs Θ out err →
      ∃ t, PSs (cxOf CX0 P w K mg base N x (defScope st) f cdv A outer s H E).nox (defBody st) t ∧ ∀ fr Q, RetC fr Q (Θ.map tagC) out → Kn fr (envOf N qs) Θ (t { nx := fun _ H' => Q .non H', rt := Q })) : Def P w K mg base CX0 (k + 1) x ps (spC pre) := by
  refine F.ok S (fun vs H Q E h => ?_) (fun f cdv A outer s H vs Q E hr h => ?_)
  · obtain ⟨F, qs, Θ, out, err, _, _, h2, h3, _⟩ := h
    rw [← Paired.len h2]
    exact (len _ _ _ _ h3).1
  · obtain ⟨F, qs, Θ, out, err, h1, hc, h2, h3, h4, h5⟩ := h
    obtain ⟨t, ht, hk⟩ := hbody f cdv A outer s H E qs Θ out err hr h3
    exact ⟨t, ht, hk ⟨F, minusL H (Θ.map Cel.a), []⟩ Q (fun p Θ' ho tg Θ'' Θx pm v F' H' ok hv => h4 p Θ' ho v F' H' (eff_of hc ok pm tg) hv) _ F H (okf_lent h1 hc (len _ _ _ _ h3).2) (env_start h2)⟩
theorem SrcM.okC (F : SrcM K C m qual st ps) (S : FnScope N ps (defScope st)) (len : ∀ qs Θ out err, pre qs Θ out err → qs.length = ps.length ∧ ∀ c ∈ Θ, c.own = true)
    (hbody : ∀ (f : Addr) (cdv : Value) (A : Around) (outer : List Env) (s : Shared) (H : Hp) (E : XK) (qs : List Vp) (Θ : List Cel) (out : Vp → List Cel → Prop) (err : Er → List Cel → Prop), Room k (A.deeper (envOfC qual (defScope st) s.heap.objs.size f cdv)) → pre qs Θ out err →
      ∃ t, PSs (cxOf CX0 P w K mg base N qual (defScope st) f cdv A outer s H E).nox (defBody st) t ∧ ∀ fr Q, RetC fr Q (Θ.map tagC) out → Kn fr (envOf N qs) Θ (t { nx := fun _ H' => Q .non H', rt := Q })) : DefM P w K mg base CX0 (k + 1) C m ps (spC pre) := by
  refine F.ok S (fun vs H Q E h => ?_) (fun f cdv A outer s H vs Q E hr h => ?_)
  · obtain ⟨F, qs, Θ, out, err, _, _, h2, h3, _⟩ := h
    rw [← Paired.len h2]
    exact (len _ _ _ _ h3).1
  · obtain ⟨F, qs, Θ, out, err, h1, hc, h2, h3, h4, h5⟩ := h
    obtain ⟨t, ht, hk⟩ := hbody f cdv A outer s H E qs Θ out err hr h3
    exact ⟨t, ht, hk ⟨F, minusL H (Θ.map Cel.a), []⟩ Q (fun p Θ' ho tg Θ'' Θx pm v F' H' ok hv => h4 p Θ' ho v F' H' (eff_of hc ok pm tg) hv) _ F H (okf_lent h1 hc (len _ _ _ _ h3).2) (env_start h2)⟩
end
end L2
set_option Elab.async false
set_option linter.all false
set_option maxRecDepth 100000
set_option maxHeartbeats 4000000
namespace L2
open PySem PySem.Spec PyProof.Rows PySem.HErr
def zTy (n : String) : Vp := ⟨fun _ v => v = .ty n, fun _ h => h⟩
section
variable {fr : Fr} {Γ Γ' : Gam} {Θ Θ' : List Cel} {F F' H H' : Hp} {K : Vp → List Cel → Prop} {Q : VK} {Kf : PySem.W.Frag}
theorem we_cT {n : String} (k : K (zTy n) Θ) : We fr Γ Θ (tC (.ty n)) K := we_c (fun _ => rfl) k
theorem we_cR {a : Addr} (k : K (zAt a) Θ) : We fr Γ Θ (tC (.ref a)) K := we_c (fun _ => rfl) k
def TyP (fr : Fr) (Θ : List Cel) (Kf : PySem.W.Frag) (p : Vp) (t : Value) : Prop := ∀ F H v, OkF fr Θ F H → p.p F v → TyX Kf H v t
theorem ty_L {α : Type} {r : Rep α} {xs : List α} : TyP fr Θ Kf (iz (zL r) xs) (.type "list") := fun F H v ok ⟨a, vs, h1, h2, h3⟩ => by subst h1; exact .base (.lst (ok.fh _ _ h2))
theorem ty_T {α : Type} [TNar α] {r : Rep α} {xs : List α} : TyP fr Θ Kf (iz (zT r) xs) (.type "tuple") := fun F H v ok ⟨a, vs, h1, h2, h3⟩ => by
  subst h1
  rcases h2 with h2 | ⟨_, o, h2, _⟩
  · exact .base (.tup (ok.fh _ _ h2))
  · exact .fTuple (ok.fh _ _ h2)
theorem ty_2 {α β : Type} {r : Rep α} {s : Rep β} {x : α × β} : TyP fr Θ Kf (iz (z2 r s) x) (.type "tuple") := fun F H v ok ⟨a, u, w, h1, h2, h3⟩ => by subst h1; exact .base (.tup (ok.fh _ _ h2))
theorem ty_I {n : Int} : TyP fr Θ Kf (iz zI n) (.type "int") := fun F H v ok h => by cases (show v = V.int n from h); exact .base (.int _)
theorem ty_B {n : Bool} : TyP fr Θ Kf (iz zB n) (.type "bool") := fun F H v ok h => by cases (show v = V.bl n from h); exact .base (.bl _)
theorem ty_S {n : Str} : TyP fr Θ Kf (iz zS n) (.type "str") := fun F H v ok h => by cases h.1; exact .base (.str _)
theorem cb_isi {p : Vp} {a n : String} {b : Bool} (h : TyP fr Θ Kf p (.type a)) (e : kitB a n = some b) (k : K (iz zB b) Θ) : Cbs fr Θ (rIsi Kf) [p, zTy n] K := fun F H vs ok hps Q q => by
  cases hps with
  | cons h1 hp => cases hp with
    | cons h2 hp => cases hp with
      | nil =>
        have h2 : _ = V.ty n := h2
        subst h2
        exact ⟨_, _, _, _, b, rfl, .ty _, h F H _ ok h1, kit_ty e, q.go k ok rfl⟩
theorem kit_ll : kitB "list" "list" = some true := by decide +kernel
theorem kit_tt : kitB "tuple" "tuple" = some true := by decide +kernel
theorem kit_ii : kitB "int" "int" = some true := by decide +kernel
theorem kit_ib : kitB "int" "bool" = some false := by decide +kernel
theorem kit_bb : kitB "bool" "bool" = some true := by decide +kernel
theorem kit_ss : kitB "str" "str" = some true := by decide +kernel
theorem im_t {b : Bool} {t : TT} {c : Bool} (h : b = true → Et fr Γ Θ t c) : b = true → Et fr Γ Θ t c := h
theorem im_f {b : Bool} {t : TT} {c : Bool} (h : b = false → Et fr Γ Θ t c) : b = false → Et fr Γ Θ t c := h
theorem im_tv {b : Bool} {t : TE} {p : Vp} (h : b = true → Ev fr Γ Θ t p) : b = true → Ev fr Γ Θ t p := h
theorem im_fv {b : Bool} {t : TE} {p : Vp} (h : b = false → Ev fr Γ Θ t p) : b = false → Ev fr Γ Θ t p := h
end
end L2
set_option Elab.async false
set_option linter.all false
set_option maxRecDepth 100000
set_option maxHeartbeats 4000000
namespace L2
open PySem PySem.Spec PyProof.Rows PySem.HErr
abbrev PreN := List Vp → (Vp → List Cel → Prop) → (Er → Prop) → Prop
def spN (pre : PreN) : Sp := fun vs H Q E => ∃ F ps out err, Same F H ∧ Paired (fun (p : Vp) v => p.p F v) ps vs ∧ pre ps out err ∧
  (∀ p Θn, out p Θn → ∀ v F' H', Same H H' → Same F F' → Same F' H' → Newer F H F' → CellsAt F' H' Θn → (∀ c ∈ Θn, H c.a = none ∧ c.own = true) → p.p F' v → Q v H') ∧ PErs F H E err
section
variable {fr : Fr} {Γ Γ' : Gam} {Θ Θ' Θn : List Cel} {F F' H H' : Hp} {K : Vp → List Cel → Prop} {Q : VK}
theorem OkF.more (k : OkF fr Θ F H) (hh : Same H H') (ff : Same F F') (fh : Same F' H') (nw : Newer F H F') (ca : CellsAt F' H' Θn) (hn : ∀ c ∈ Θn, H c.a = none ∧ c.own = true) : OkF fr (Θn ++ Θ) F' H' := by
  have g := k.grow hh ff fh nw
  refine ⟨g.fh, g.f0, g.nw, g.h0, g.al, ?_, fun c hc => ?_⟩
  · rw [List.map_append, List.nodup_append]
    refine ⟨ca.1, g.nd, fun a ha b hb e => ?_⟩
    obtain ⟨c, hc, rfl⟩ := List.mem_map.mp ha
    obtain ⟨d, hd, rfl⟩ := List.mem_map.mp hb
    obtain ⟨_, ⟨o, h2, _⟩, _⟩ := k.ce d hd
    have h1 : H c.a = none := (hn c hc).1
    rw [e, h2] at h1
    cases h1
  · rcases List.mem_append.mp hc with hc | hc
    · obtain ⟨h1, h2⟩ := ca.2 c hc
      obtain ⟨h3, h4⟩ := hn c hc
      exact ⟨h1, h2, by rw [if_pos h4]; exact k.h0n h3⟩
    · exact g.ce c hc
theorem sps_N {pre : PreN} {E : L2.St → XK} {ps : List Vp} {out : Vp → List Cel → Prop} {err : Er → Prop} (hp : pre ps out err) (k : ∀ p Θn, out p Θn → K p (Θn ++ Θ)) (x : ∀ e, err e → Kr fr Γ Θ (fun cls d σ H => E σ cls d H) e) : Sps fr Γ Θ (spN pre) E ps K := fun σ F H vs ok env hps Q q =>
  ⟨F, ps, out, err, ok.fh, hps, hp, fun p Θn ho v F' H' hh ff fh nw ca hn h => q p _ (k p Θn ho) v F' H' ff (ok.more hh ff fh nw ca hn) h,
    fun e he F' H' d us hh ff fh nw hd hf => x e he σ F' H' (ok.grow hh ff fh nw) (env.mono ff) d us hd hf⟩
def RetN (fr : Fr) (Q : VK) (out : Vp → List Cel → Prop) : Prop := ∀ p Θn, out p Θn → (∀ c ∈ Θn, c.own = true) → ∀ Θ'' Θx, Θ''.Perm (Θn ++ Θx) → Rt fr Θ'' Q p
theorem RetN.fine {fr' : Fr} {out : Vp → List Cel → Prop} (h : RetN fr Q out) (l : FrLe fr fr') : RetN fr' Q out := fun p Θn ho hn Θ'' Θx pm => (h p Θn ho hn Θ'' Θx pm).fine l
end
section
variable {P : Program} {w : World} {K : PySem.W.Frag} {mg : Str → Option Value} {base : Heap} {x m qual : Str} {C : Addr} {st : Stmt} {N ps : List Str} {k : Nat} {pre : PreN}
theorem retN_of {F H : Hp} {Q : VK} {out : Vp → List Cel → Prop} (h4 : ∀ p Θn, out p Θn → ∀ v F' H', Same H H' → Same F F' → Same F' H' → Newer F H F' → CellsAt F' H' Θn → (∀ c ∈ Θn, H c.a = none ∧ c.own = true) → p.p F' v → Q v H') : RetN ⟨F, H, []⟩ Q out := fun p Θn ho hn Θ'' Θx pm v F' H' ok hv => by
  have ok2 := ok.perm pm
  obtain ⟨a, b, c, d⟩ := ok.post
  refine h4 p Θn ho v F' H' a b c d ok2.cellsAt (fun e he => ⟨?_, hn e he⟩) hv
  have := (ok2.ce e (List.mem_append_left _ he)).2.2
  rw [if_pos (hn e he)] at this
  exact this
theorem Src.okN (F : Src K mg x st ps) (S : FnScope N ps (defScope st)) (len : ∀ qs out err, pre qs out err → qs.length = ps.length)
    (hbody : ∀ (f : Addr) (cdv : Value) (A : Around) (outer : List Env) (s : Shared) (H : Hp) (E : XK) (qs : List Vp) (out : Vp → List Cel → Prop) (err : Er → Prop), Room k (A.deeper (envOfC x (defScope st) s.heap.objs.size f cdv)) → pre qs out err →
      ∃ t, PSs (cxOf CX0 P w K mg base N x (defScope st) f cdv A outer s H E).nox (defBody st) t ∧ ∀ fr Q, RetN fr Q out → Kn fr (envOf N qs) [] (t { nx := fun _ H' => Q .non H', rt := Q })) : Def P w K mg base CX0 (k + 1) x ps (spN pre) := by
  refine F.ok S (fun vs H Q E h => ?_) (fun f cdv A outer s H vs Q E hr h => ?_)
  · obtain ⟨F, qs, out, err, _, h2, h3, _⟩ := h
    rw [← Paired.len h2]
    exact len _ _ _ h3
  · obtain ⟨F, qs, out, err, h1, h2, h3, h4, h5⟩ := h
    obtain ⟨t, ht, hk⟩ := hbody f cdv A outer s H E qs out err hr h3
    exact ⟨t, ht, hk _ Q (retN_of h4) _ F H (OkF.start h1) (env_start h2)⟩
end
section
variable {fr : Fr} {Γ Γ' : Gam} {Θ Θ' Θn : List Cel} {F F' H H' : Hp} {K : Vp → List Cel → Prop} {Q : VK}
/-- the value as it stood in F0 -/
def pin (F0 : Hp) (p : Vp) : Vp := ⟨fun _ v => p.p F0 v, fun _ h => h⟩
/-- the object at a, and what it is just now -/
def zBoth (a : Addr) (q : Vp) : Vp := ⟨fun F v => v = .ref a ∧ q.p F v, fun e ⟨h1, h2⟩ => ⟨h1, q.mono e h2⟩⟩
/-- Fc: F0 and the contents of the cells Θb -/
structure Lend (fr : Fr) (Θb : List Cel) (F0 Fc : Hp) : Prop where
  s : Same F0 Fc
  f0 : Same fr.F0 F0
  nw : ∀ a o, F0 a = some o → Nwr fr.F0 fr.H0 a o
  nc : ∀ a o, Fc a = some o → (∃ o', F0 a = some o') ∨ a ∈ Θb.map Cel.a
  nd : (Θb.map Cel.a).Nodup
  ce : ∀ c ∈ Θb, F0 c.a = none ∧ (∃ o, Fc c.a = some o ∧ c.φ F0 o) ∧ c.own = true ∧ fr.H0 c.a = none
theorem we_varP {Θb : List Cel} {F0 Fc : Hp} {B : List Addr} {H0 : Hp} {p : Vp} {i : Nat} (hl : Lend fr Θb F0 Fc) (h : Γ[i]? = some (some (pin F0 p))) (k : K p Θ) : We ⟨Fc, H0, B⟩ Γ Θ (tVar i) K := fun σ F H ok env Q q => by
  obtain ⟨v, h1, h2⟩ := env.get h
  exact ⟨v, h1, q.go k ok (p.mono (hl.s.trans ok.f0) h2)⟩
theorem we_varB {a : Addr} {p : Vp} {i : Nat} (h : Γ[i]? = some (some (zBoth a p))) (k : K p Θ) : We fr Γ Θ (tVar i) K := fun σ F H ok env Q q => by
  obtain ⟨v, h1, h2⟩ := env.get h
  exact ⟨v, h1, q.go k ok h2.2⟩
/-- a list, lent -/
theorem Lend.lst {α : Type} {r : Rep α} {G : Addr} {xs : List α} {Θx : List Cel} {F0 Fc : Hp} (hl : Lend fr (cL G r xs :: Θx) F0 Fc) : ∀ F v, Same Fc F → (zAt G).p F0 v → (zBoth G (iz (zL r) xs)).p F v := fun F v hs hv => by
  have hv : v = .ref G := hv
  subst hv
  obtain ⟨_, ⟨o, h2, vs, rfl, h3⟩, _⟩ := hl.ce _ (.head _)
  exact ⟨rfl, G, vs, rfl, hs _ _ h2, Paired.imp2 (fun _ _ h => r.mono (hl.s.trans hs) h) h3⟩
end
end L2
set_option Elab.async false
set_option linter.all false
set_option maxRecDepth 100000
set_option maxHeartbeats 4000000
namespace L2
open PySem PySem.Spec PyProof.Rows PySem.HErr
abbrev PreB := List Vp → (Vp → Prop) → Prop
section
variable {fr : Fr} {Γ Γ' : Gam} {Θ Θ' Θn : List Cel} {F F' H H' : Hp} {K : Vp → List Cel → Prop} {Q : VK}
theorem perm_of_mem {c : Cel} (h : c ∈ Θ) : ∃ Θr, Θ.Perm ([c] ++ Θr) := by
  obtain ⟨s, t, rfl⟩ := List.append_of_mem h
  exact ⟨s ++ t, List.perm_middle⟩
def RetB (fr : Fr) (Q : VK) (b l : Addr) (o : Vp → Prop) : Prop := ∀ p, o p → ∀ Θ, cBox true b l ∈ Θ → Rt fr Θ Q p
theorem RetB.fine {fr' : Fr} {b l : Addr} {o : Vp → Prop} (h : RetB fr Q b l o) (le : FrLe fr fr') : RetB fr' Q b l o := fun p hp Θ hc => (h p hp Θ hc).fine le
end
/-- a list of two things -/
def zLp {α β : Type} (r : Rep α) (s : Rep β) : Rep (α × β) := ⟨fun F v x => ∃ a u w, v = .ref a ∧ F a = some (.lst [u, w]) ∧ r.p F u x.1 ∧ s.p F w x.2, fun e ⟨a, u, w, h1, h2, h3, h4⟩ => ⟨a, u, w, h1, e _ _ h2, r.mono e h3, s.mono e h4⟩⟩
theorem cutX_drop {α : Type} (xs : List α) (n : Nat) : cutX xs (some (n : Int)) none = xs.drop n := by
  unfold cutX
  rw [HT.sIx_none, HT.sIx_nat]
  by_cases h : n ≤ xs.length
  · rw [Nat.min_eq_left h]
    exact List.take_of_length_le (by rw [List.length_drop]; exact Nat.le_refl _)
  · rw [Nat.min_eq_right (by omega), List.drop_length, List.drop_of_length_le (by omega), List.take_nil]
end L2
set_option Elab.async false
set_option linter.all false
set_option maxRecDepth 100000
set_option maxHeartbeats 4000000
namespace L2
open PySem PySem.Spec PyProof.Rows PySem.HErr
section
variable {fr : Fr} {Γ Γ' : Gam} {Θ : List Cel} {F F' H H' : Hp} {K : Vp → List Cel → Prop} {Q : VK}
theorem flat_pvs {α : Type} {r : Rep α} {vs : List V} {xs : List α} (h : PVs r F vs xs) : ∀ n : Nat, PVs r F (List.replicate n vs).flatten (List.replicate n xs).flatten
  | 0 => .nil
  | n + 1 => by
    rw [List.replicate_succ, List.replicate_succ, List.flatten_cons, List.flatten_cons]
    exact Paired.app h (flat_pvs h n)
theorem flat_one {α : Type} (x : α) : ∀ n : Nat, (List.replicate n [x]).flatten = List.replicate n x
  | 0 => rfl
  | n + 1 => by rw [List.replicate_succ, List.flatten_cons, flat_one x n]; rfl
def optP {α : Type} (r : Rep α) : Option α → Vp
  | none => zNon
  | some x => iz r x
class NotNon {α : Type} (r : Rep α) : Prop where
  nn : ∀ F v x, r.p F v x → v ≠ .non
instance {α : Type} {r : Rep α} : NotNon (zL r) := ⟨fun F v x ⟨a, vs, h, _⟩ => by rw [h]; exact fun q => by cases q⟩
instance {α : Type} [TNar α] {r : Rep α} : NotNon (zT r) := ⟨fun F v x ⟨a, vs, h, _⟩ => by rw [h]; exact fun q => by cases q⟩
instance {α β : Type} {r : Rep α} {s : Rep β} : NotNon (z2 r s) := ⟨fun F v x ⟨a, u, w, h, _⟩ => by rw [h]; exact fun q => by cases q⟩
instance {α β γ : Type} {r : Rep α} {s : Rep β} {t : Rep γ} : NotNon (z3 r s t) := ⟨fun F v x ⟨a, u, w, z, h, _⟩ => by rw [h]; exact fun q => by cases q⟩
instance : NotNon zI := ⟨fun F v x h => by rw [show v = .int x from h]; exact fun q => by cases q⟩
instance : NotNon zS := ⟨fun F v x h => by rw [h.1]; exact fun q => by cases q⟩
theorem ops_isO {α : Type} {r : Rep α} [NotNon r] {o : Option α} (k : K (iz zB o.isNone) Θ) : Ops fr Θ (fun x y H Q => y = .non ∧ Q (.bl (decide (x = .non))) H) (optP r o) zNon K := fun F H v w ok hv hw Q q => by
  refine ⟨hw, q.go k ok ?_⟩
  show V.bl _ = V.bl _
  cases o with
  | none => rw [show v = .non from hv]; rfl
  | some x => rw [decide_eq_false (NotNon.nn F v x hv)]; rfl
theorem ops_notO {α : Type} {r : Rep α} [NotNon r] {o : Option α} (k : K (iz zB o.isSome) Θ) : Ops fr Θ (fun x y H Q => y = .non ∧ Q (.bl (!decide (x = .non))) H) (optP r o) zNon K := fun F H v w ok hv hw Q q => by
  refine ⟨hw, q.go k ok ?_⟩
  show V.bl _ = V.bl _
  cases o with
  | none => rw [show v = .non from hv]; rfl
  | some x => rw [decide_eq_false (NotNon.nn F v x hv)]; rfl
theorem ops_isX {α : Type} {r : Rep α} [NotNon r] {x : α} (k : K (iz zB false) Θ) : Ops fr Θ (fun x y H Q => y = .non ∧ Q (.bl (decide (x = .non))) H) (iz r x) zNon K := ops_isO (o := some x) k
theorem ops_notX {α : Type} {r : Rep α} [NotNon r] {x : α} (k : K (iz zB true) Θ) : Ops fr Θ (fun x y H Q => y = .non ∧ Q (.bl (!decide (x = .non))) H) (iz r x) zNon K := ops_notO (o := some x) k
theorem ops_isN (k : K (iz zB true) Θ) : Ops fr Θ (fun x y H Q => y = .non ∧ Q (.bl (decide (x = .non))) H) zNon zNon K := ops_isO (r := zI) (o := none) k
theorem ops_notN (k : K (iz zB false) Θ) : Ops fr Θ (fun x y H Q => y = .non ∧ Q (.bl (!decide (x = .non))) H) zNon zNon K := ops_notO (r := zI) (o := none) k
end
end L2
set_option Elab.async false
set_option linter.all false
set_option maxRecDepth 100000
set_option maxHeartbeats 4000000
namespace L2
open PySem PySem.Spec PyProof.Rows PySem.HErr
end L2
set_option Elab.async false
set_option linter.all false
set_option maxRecDepth 100000
set_option maxHeartbeats 4000000
namespace L2
open PySem PySem.Spec PyProof.Rows PySem.HErr
/-- an instance of the class at C -/
def InsC (fr : Fr) (Θ : List Cel) (p : Vp) (C : Addr) : Prop := ∀ F H v, OkF fr Θ F H → p.p F v → ∃ a dx fs, v = .ref a ∧ H a = some (.ins C dx fs)
section
variable {fr : Fr} {Γ Γ' : Gam} {Θ : List Cel} {F F' H H' : Hp} {K : Vp → List Cel → Prop} {Q : VK}
theorem kpt_truth {X : Cx} {Kf : PySem.W.Frag} {a : Expr} {ta : TE} (ha : PE X a ta) (he : ∀ whole, isTrue a X.env whole = (do let v ← whole; standAt a.pos; holding [v] (truthy v))) (h : X.K = Kf := by rfl) : PT X a (tTru Kf ta) := h ▸ pt_truth ha he
/-- a value's truth -/
def TruP (fr : Fr) (Θ : List Cel) (Kf : PySem.W.Frag) (p : Vp) (b : Bool) : Prop := ∀ F H v, OkF fr Θ F H → p.p F v → TruV Kf v H b
theorem wt_tru {Kf : PySem.W.Frag} {t : TE} {Kb' : Bool → List Cel → Prop} (w : We fr Γ Θ t fun p Θ1 => ∃ b, TruP fr Θ1 Kf p b ∧ Kb' b Θ1) : Wt fr Γ Θ (tTru Kf t) Kb' := fun σ F H ok env Q q =>
  w σ F H ok env _ fun p Θ1 ⟨b, ht, kk⟩ v F1 H1 s1 ok1 hp => ⟨b, ht F1 H1 v ok1 hp, q b Θ1 kk F1 H1 s1 ok1⟩
theorem emp_len {α β : Type} {R : α → β → Prop} {l : List α} {m : List β} (h : Paired R l m) : l.isEmpty = m.isEmpty := by cases h <;> rfl
theorem tru_L {Kf : PySem.W.Frag} {α : Type} {r : Rep α} {xs : List α} : TruP fr Θ Kf (iz (zL r) xs) (!xs.isEmpty) := fun F H v ok ⟨a, vs, h1, h2, h3⟩ => by
  subst h1
  exact .inl ⟨vs, SqL.of (ok.fh _ _ h2), by rw [emp_len h3]⟩
end
end L2
set_option Elab.async false
set_option linter.all false
set_option maxRecDepth 100000
set_option maxHeartbeats 4000000
namespace L2
open PySem PySem.Spec PyProof.Rows PySem.HErr
abbrev big : Nat := 100000
theorem big_line {n : Nat} (h : n ≤ big) : n ≤ sizeLine := Nat.le_trans h (by unfold sizeLine; decide)
theorem big_lt {n : Nat} (h : n ≤ big) : n < sizeLine := Nat.lt_of_le_of_lt h (by unfold sizeLine; decide)
inductive EK where
  | tooMany | badWord | double | badNumber | empty | unknown | inUse | badState | notReady | notSound | badPair | badText | noUndo
  deriving DecidableEq
inductive HE where
  | tooMany (kind : Str) (limit : Int)
  | badWord (w : Str)
  | double (n : Str)
  | badNumber (n : Int)
  | empty (n : Str)
  | unknown (n : Str)
  | inUse (n : Str)
  | badState (ns : List Int)
  | notReady (s p : Str) (i : Int)
  | notSound (d : PyData)
  | badPair (n : Str)
  | badText (n : Int)
  | noUndo
def HE.k : HE → EK
  | .tooMany _ _ => .tooMany
  | .badWord _ => .badWord
  | .double _ => .double
  | .badNumber _ => .badNumber
  | .empty _ => .empty
  | .unknown _ => .unknown
  | .inUse _ => .inUse
  | .badState _ => .badState
  | .notReady _ _ _ => .notReady
  | .notSound _ => .notSound
  | .badPair _ => .badPair
  | .badText _ => .badText
  | .noUndo => .noUndo
/-- what is wanted: of the result, of an error -/
abbrev DM (β : Type) := (β → Prop) → (HE → Prop) → Prop
def noX : HE → Prop := fun _ => False
def ifD (c : Bool) (A B : Prop) : Prop := (c = true → A) ∧ (c = false → B)
def andD (c : Bool) (f : (Bool → Prop) → Prop) (k : Bool → Prop) : Prop := (c = true → f k) ∧ (c = false → k false)
def orD (c : Bool) (f : (Bool → Prop) → Prop) (k : Bool → Prop) : Prop := (c = true → k true) ∧ (c = false → f k)
def joinD {S : Type} (f : (S → Prop) → Prop) (k : S → Prop) : Prop := f k
def forD {α S : Type} : List α → S → (α → S → (S → Prop) → (S → Prop) → Prop) → (S → Prop) → Prop
  | [], s, _, after => after s
  | x :: xs, s, body, after => body x s (fun s' => forD xs s' body after) after
def whileN {S : Type} : Nat → S → (S → (S → Prop) → (S → Prop) → Prop) → (S → Prop) → Prop
  | 0, _, _, _ => False
  | n + 1, s, step, after => step s (fun s' => whileN n s' step after) after
def whileD {S : Type} (s : S) (step : S → (S → Prop) → (S → Prop) → Prop) (after : S → Prop) : Prop := ∃ n, whileN n s step after
def mapD {α β : Type} : List α → List β → (α → (β → Prop) → Prop) → (List β → Prop) → Prop
  | [], acc, _, k => k acc
  | x :: xs, acc, f, k => f x fun y => mapD xs (acc ++ [y]) f k
def compD {α β : Type} : List α → List β → (α → (Option β → Prop) → Prop) → (List β → Prop) → Prop
  | [], acc, _, k => k acc
  | x :: xs, acc, f, k => f x fun o => compD xs (acc ++ o.toList) f k
def Vp.Le (p q : Vp) : Prop := ∀ F v, p.p F v → q.p F v
theorem Vp.Le.refl (p : Vp) : p.Le p := fun _ _ h => h
def yN : Rep Unit := ⟨fun _ v _ => v = .non, fun _ h => h⟩
def yS : Rep Str := ⟨fun F v x => zS.p F v x ∧ x.length ≤ big, fun e h => ⟨zS.mono e h.1, h.2⟩⟩
def yL {α : Type} (r : Rep α) : Rep (List α) := ⟨fun F v x => (zL r).p F v x ∧ x.length ≤ big, fun e h => ⟨(zL r).mono e h.1, h.2⟩⟩
def yT {α : Type} [TNar α] (r : Rep α) : Rep (List α) := ⟨fun F v x => (zT r).p F v x ∧ x.length ≤ big, fun e h => ⟨(zT r).mono e h.1, h.2⟩⟩
def yD {α : Type} (r : Rep α) : Rep (List (Str × α)) := ⟨fun F v x => (zD r).p F v x ∧ x.length ≤ big, fun e h => ⟨(zD r).mono e h.1, h.2⟩⟩
/-- None or a thing -/
def yO {α : Type} (r : Rep α) : Rep (Option α) := ⟨fun F v x => match x with | none => v = .non | some y => r.p F v y, fun {F F' v x} e h => by
  cases x with
  | none => exact h
  | some y => exact r.mono e h⟩
mutual
def xp (F : Hp) : PyData → V → Prop
  | .none, v => v = .non
  | .int i, v => v = .int i
  | .str x, v => v = .str x ∧ Asc x ∧ x.length ≤ big
  | .list ds, v => ∃ a vs, v = .ref a ∧ F a = some (.lst vs) ∧ ds.length ≤ big ∧ xpAll F ds vs
  | .tuple ds, v => ∃ a vs, v = .ref a ∧ TupB (!isSDs ds) F a vs ∧ ds.length ≤ big ∧ xpAll F ds vs
  | .bool _, _ => False
  | .dict _, _ => False
def xpAll (F : Hp) : List PyData → List V → Prop
  | [], vs => vs = []
  | d :: ds, vs => ∃ v r, vs = v :: r ∧ xp F d v ∧ xpAll F ds r
end
mutual
theorem xp_mono {F F' : Hp} (e : Same F F') : ∀ (d : PyData) (v : V), xp F d v → xp F' d v
  | .none, _, h => by simp only [xp] at h ⊢; exact h
  | .int _, _, h => by simp only [xp] at h ⊢; exact h
  | .str _, _, h => by simp only [xp] at h ⊢; exact h
  | .bool _, _, h => by simp only [xp] at h
  | .dict _, _, h => by simp only [xp] at h
  | .list ds, _, h => by
    simp only [xp] at h ⊢
    obtain ⟨a, vs, h1, h2, h3, h4⟩ := h
    exact ⟨a, vs, h1, e _ _ h2, h3, xpAll_mono e ds vs h4⟩
  | .tuple ds, _, h => by
    simp only [xp] at h ⊢
    obtain ⟨a, vs, h1, h2, h3, h4⟩ := h
    exact ⟨a, vs, h1, h2.mono e, h3, xpAll_mono e ds vs h4⟩
theorem xpAll_mono {F F' : Hp} (e : Same F F') : ∀ (ds : List PyData) (vs : List V), xpAll F ds vs → xpAll F' ds vs
  | [], _, h => by simp only [xpAll] at h ⊢; exact h
  | d :: ds, _, h => by
    simp only [xpAll] at h ⊢
    obtain ⟨v, r, h1, h2, h3⟩ := h
    exact ⟨v, r, h1, xp_mono e d v h2, xpAll_mono e ds r h3⟩
end
def yX : Rep PyData := ⟨fun F v d => xp F d v ∧ d.depth ≤ 60, fun e h => ⟨xp_mono e _ _ h.1, h.2⟩⟩
/-- lists and tuples of a fixed form -/
def zL3 {α β γ : Type} (r : Rep α) (s : Rep β) (t : Rep γ) : Rep (α × β × γ) := ⟨fun F v x => ∃ a u w z, v = .ref a ∧ F a = some (.lst [u, w, z]) ∧ r.p F u x.1 ∧ s.p F w x.2.1 ∧ t.p F z x.2.2, fun e ⟨a, u, w, z, h1, h2, h3, h4, h5⟩ => ⟨a, u, w, z, h1, e _ _ h2, r.mono e h3, s.mono e h4, t.mono e h5⟩⟩
def z4 {α β γ δ : Type} (r : Rep α) (s : Rep β) (t : Rep γ) (u : Rep δ) : Rep (α × β × γ × δ) := ⟨fun F v x => ∃ a v1 v2 v3 v4, v = .ref a ∧ F a = some (.tup [v1, v2, v3, v4]) ∧ r.p F v1 x.1 ∧ s.p F v2 x.2.1 ∧ t.p F v3 x.2.2.1 ∧ u.p F v4 x.2.2.2, fun e ⟨a, v1, v2, v3, v4, h1, h2, h3, h4, h5, h6⟩ => ⟨a, v1, v2, v3, v4, h1, e _ _ h2, r.mono e h3, s.mono e h4, t.mono e h5, u.mono e h6⟩⟩
def z5 {α β γ δ ε : Type} (r : Rep α) (s : Rep β) (t : Rep γ) (u : Rep δ) (w : Rep ε) : Rep (α × β × γ × δ × ε) := ⟨fun F v x => ∃ a v1 v2 v3 v4 v5, v = .ref a ∧ F a = some (.tup [v1, v2, v3, v4, v5]) ∧ r.p F v1 x.1 ∧ s.p F v2 x.2.1 ∧ t.p F v3 x.2.2.1 ∧ u.p F v4 x.2.2.2.1 ∧ w.p F v5 x.2.2.2.2, fun e ⟨a, v1, v2, v3, v4, v5, h1, h2, h3, h4, h5, h6, h7⟩ => ⟨a, v1, v2, v3, v4, v5, h1, e _ _ h2, r.mono e h3, s.mono e h4, t.mono e h5, u.mono e h6, w.mono e h7⟩⟩
def z1 {α : Type} (r : Rep α) : Rep α := ⟨fun F v x => ∃ a v1, v = .ref a ∧ F a = some (.tup [v1]) ∧ r.p F v1 x, fun e ⟨a, v1, h1, h2, h3⟩ => ⟨a, v1, h1, e _ _ h2, r.mono e h3⟩⟩
/-- a list of one's own, of bounded size -/
def cY {α : Type} (a : Addr) (r : Rep α) (xs : List α) : Cel := ⟨a, true, fun F o => (∃ vs, o = .lst vs ∧ PVs r F vs xs) ∧ xs.length ≤ big, fun e ⟨⟨vs, h1, h2⟩, h3⟩ => ⟨⟨vs, h1, Paired.imp2 (fun _ _ h => r.mono e h) h2⟩, h3⟩, fun h e => by subst e; simp at h⟩
theorem le_zS {z : Str} : (iz yS z).Le (iz zS z) := fun _ _ q => q.1
theorem le_yL {α : Type} {r : Rep α} {xs : List α} (h : xs.length ≤ big) : (iz (zL r) xs).Le (iz (yL r) xs) := fun _ _ q => ⟨q, h⟩
theorem le_zL {α : Type} {r : Rep α} {xs : List α} : (iz (yL r) xs).Le (iz (zL r) xs) := fun _ _ q => q.1
section
variable {fr : Fr} {Γ Γ' : Gam} {Θ Θ' : List Cel} {F F' H H' : Hp} {K : Vp → List Cel → Prop} {Q : VK}
theorem Kq.conv (h : Kq fr F K Q) : Kq fr F (fun p Θ1 => ∃ q, p.Le q ∧ K q Θ1) Q := fun p Θ' ⟨q, l, k⟩ v F' H' s ok hp => h q Θ' k v F' H' s ok (l _ _ hp)
theorem We.conv {t : TE} (w : We fr Γ Θ t fun p Θ1 => ∃ q, p.Le q ∧ K q Θ1) : We fr Γ Θ t K := fun σ F H ok env Q q => w σ F H ok env Q q.conv
theorem Ops.conv {r : R2} {p q : Vp} (w : Ops fr Θ r p q fun p Θ1 => ∃ q, p.Le q ∧ K q Θ1) : Ops fr Θ r p q K := fun F H v w' ok h1 h2 Q k => w F H v w' ok h1 h2 Q k.conv
theorem Cbs.conv {r : List V → Hp → VK → Prop} {ps : List Vp} (w : Cbs fr Θ r ps fun p Θ1 => ∃ q, p.Le q ∧ K q Θ1) : Cbs fr Θ r ps K := fun F H vs ok h1 Q k => w F H vs ok h1 Q k.conv
theorem Mts.conv {r : V → List V → Hp → VK → Prop} {p : Vp} {ps : List Vp} (w : Mts fr Θ r p ps fun p Θ1 => ∃ q, p.Le q ∧ K q Θ1) : Mts fr Θ r p ps K := fun F H v vs ok h1 h2 Q k => w F H v vs ok h1 h2 Q k.conv
theorem Sls.conv {r : V → Option Int → Option Int → Hp → VK → Prop} {p : Vp} {lo hi : Option Int} (w : Sls fr Θ r p lo hi fun p Θ1 => ∃ q, p.Le q ∧ K q Θ1) : Sls fr Θ r p lo hi K := fun F H v ok h1 Q k => w F H v ok h1 Q k.conv
theorem Ops.le {r : R2} {p q p' q' : Vp} (w : Ops fr Θ r p' q' K) (h1 : p.Le p') (h2 : q.Le q') : Ops fr Θ r p q K := fun F H v w' ok a b Q k => w F H v w' ok (h1 _ _ a) (h2 _ _ b) Q k
theorem Sls.le {r : V → Option Int → Option Int → Hp → VK → Prop} {p p' : Vp} {lo hi : Option Int} (w : Sls fr Θ r p' lo hi K) (h : p.Le p') : Sls fr Θ r p lo hi K := fun F H v ok a Q k => w F H v ok (h _ _ a) Q k
theorem Sls.tell {r : V → Option Int → Option Int → Hp → VK → Prop} {p : Vp} {lo hi : Option Int} {A : Prop} (h : ∀ F v, p.p F v → A) (w : A → Sls fr Θ r p lo hi K) : Sls fr Θ r p lo hi K := fun F H v ok a Q k => w (h _ _ a) F H v ok a Q k
theorem te_L {α : Type} {r : Rep α} {xs : List α} : ∀ F v, (iz (yL r) xs).p F v → xs.length ≤ big := fun _ _ h => h.2
theorem we_cSy {z : Str} (h : Asc z) (hl : z.length ≤ big) (k : K (iz yS z) Θ) : We fr Γ Θ (tC (.str z)) K := we_c (p := iz yS z) (fun _ => ⟨⟨rfl, h⟩, hl⟩) k
theorem we_cNy (k : K (iz yN ()) Θ) : We fr Γ Θ (tC .non) K := we_c (fun _ => rfl) k
theorem oy_neS {m n : Str} (k : K (iz zB (!decide (m = n))) Θ) : Ops fr Θ rNe (iz yS m) (iz yS n) K := (ops_neS k).le le_zS le_zS
def SeqY {α : Type} (fr : Fr) (Θ : List Cel) (p : Vp) (r : Rep α) (xs : List α) : Prop := SeqP fr Θ p r xs ∧ ∀ F H v, OkF fr Θ F H → p.p F v → xs.length ≤ big
theorem sy_L {α : Type} {r : Rep α} {xs : List α} : SeqY fr Θ (iz (yL r) xs) r xs := ⟨fun F H v ok h => seq_L F H v ok h.1, fun _ _ _ _ h => h.2⟩
theorem sy_C {α : Type} {r : Rep α} {xs : List α} {a : Addr} {j : Nat} (hj : Θ[j]? = some (cY a r xs)) : SeqY fr Θ (zAt a) r xs := ⟨fun F H v ok hv => by
  obtain ⟨_, ⟨o, h2, ⟨⟨vs, rfl, h4⟩, h5⟩⟩, _⟩ := ok.ce _ (List.mem_of_getElem? hj)
  exact ⟨a, vs, hv, .inl (.inl h2), h4⟩, fun F H v ok hv => by
  obtain ⟨_, ⟨o, h2, ⟨⟨vs, rfl, h4⟩, h5⟩⟩, _⟩ := ok.ce _ (List.mem_of_getElem? hj)
  exact h5⟩
theorem oy_ixL {Kf : PySem.W.Frag} {α : Type} {r : Rep α} {xs : List α} {n : Int} {x : α} (e : atI xs n = some x) (k : K (iz r x) Θ) : Ops fr Θ (rIxL Kf) (iz (yL r) xs) (iz zI n) K := (ops_ixL e k).le le_zL (Vp.Le.refl _)
theorem oy_ixC {Kf : PySem.W.Frag} {α : Type} {r : Rep α} {xs : List α} {n : Int} {x : α} {a : Addr} {j : Nat} (hj : Θ[j]? = some (cY a r xs)) (e : atI xs n = some x) (k : K (iz r x) Θ) : Ops fr Θ (rIxL Kf) (zAt a) (iz zI n) K := fun F H v w ok hv hw Q q => by
  obtain ⟨_, ⟨o, h2, ⟨⟨vs, rfl, h4⟩, h5⟩⟩, _⟩ := ok.ce _ (List.mem_of_getElem? hj)
  have hv : v = .ref a := hv
  have hw : w = .int n := hw
  subst hv hw
  obtain ⟨u, hu, hr⟩ := pvs_at h4 e
  exact ⟨a, vs, n, u, rfl, rfl, SqL.of h2, hu, q.go k ok hr⟩
theorem cy_len {Kf : PySem.W.Frag} {α : Type} {r : Rep α} {xs : List α} {p : Vp} (h : SeqY fr Θ p r xs) (k : xs.length ≤ big → K (iz zI xs.length) Θ) : Cbs fr Θ (rLenQ Kf) [p] K := fun F H vs ok hps Q q => by
  have hl : xs.length ≤ big := by
    cases hps with
    | cons a b => exact h.2 F H _ ok a
  exact cb_len h.1 (k hl) F H vs ok hps Q q
theorem cy_list {Kf : PySem.W.Frag} {α : Type} {r : Rep α} {xs : List α} {p : Vp} (h : SeqY fr Θ p r xs) (k : K (iz (yL r) xs) Θ) : Cbs fr Θ (rListQ Kf) [p] K := fun F H vs ok hps Q q => by
  have hl : xs.length ≤ big := by
    cases hps with
    | cons a b => exact h.2 F H _ ok a
  exact (Cbs.conv (cb_list h.1 ⟨_, le_yL hl, k⟩)) F H vs ok hps Q q
theorem cy_any {Kf : PySem.W.Frag} {xs : List Bool} (k : K (iz zB (xs.any id)) Θ) : Cbs fr Θ (rAny Kf) [iz (yL zB) xs] K := fun F H vs ok hps Q q => cb_any k F H vs ok (by
  cases hps with
  | cons a b => cases b with
    | nil => exact .cons a.1 .nil) Q q
theorem cy_intB {b : Bool} (k : K (iz zI (if b then 1 else 0)) Θ) : Cbs fr Θ (fun xs H Q => (∃ i, xs = [.int i] ∧ Q (.int i) H) ∨ ∃ k, xs = [.bl k] ∧ Q (.int (if k then 1 else 0)) H) [iz zB b] K := fun F H vs ok hps Q q => by
  cases hps with
  | cons h1 hp => cases hp with
    | nil =>
      have h1 : _ = V.bl b := h1
      subst h1
      exact .inr ⟨b, rfl, q.go k ok rfl⟩
theorem cutX_len {α : Type} {xs : List α} {lo hi : Option Int} {n : Nat} (h : xs.length ≤ n) : (cutX xs lo hi).length ≤ n := by
  unfold cutX
  have h1 := List.length_take_le (HT.sIx xs.length xs.length hi - HT.sIx xs.length 0 lo) (xs.drop (HT.sIx xs.length 0 lo))
  rw [List.length_take, List.length_drop]
  omega
theorem sy_slL {Kf : PySem.W.Frag} {α : Type} {r : Rep α} {xs : List α} {lo hi : Option Int} (k : K (iz (yL r) (cutX xs lo hi)) Θ) : Sls fr Θ (rSlL Kf) (iz (yL r) xs) lo hi K := Sls.tell te_L fun hl => (Sls.conv (sls_L ⟨_, le_yL (cutX_len hl), k⟩)).le le_zL
theorem oy_cat {α : Type} {r : Rep α} {xs ys : List α} (hl : xs.length + ys.length ≤ big) (k : K (iz (yL r) (xs ++ ys)) Θ) : Ops fr Θ rCat (iz (yL r) xs) (iz (yL r) ys) K := (Ops.conv (ops_cat (big_line hl) ⟨_, le_yL (by rw [List.length_append]; exact hl), k⟩)).le le_zL le_zL
theorem we_lstY {α : Type} {r : Rep α} {t : TA} (w : Wa fr Γ Θ t fun ps Θ1 => ∃ xs : List α, ps = xs.map (iz r) ∧ xs.length ≤ 1000 ∧ K (iz (yL r) xs) Θ1) : We fr Γ Θ (tLst t) K := We.conv (we_lst (r := r) fun σ F H ok env Q q => w σ F H ok env Q fun ps Θ1 ⟨xs, e, hl, k⟩ => q ps Θ1 ⟨xs, e, by rw [e, List.length_map]; exact hl, _, le_yL (Nat.le_trans hl (by decide)), k⟩)
theorem we_ownY {α : Type} (r : Rep α) {t : TA} (w : Wa fr Γ Θ t fun ps Θ1 => ∃ xs : List α, ps = xs.map (iz r) ∧ xs.length ≤ 1000 ∧ ∀ a, K (zAt a) (cY a r xs :: Θ1)) : We fr Γ Θ (tLst t) K := fun σ F H ok env Q q =>
  w σ F H ok env _ fun ps Θ1 ⟨xs, e, hl, k⟩ vs F1 H1 s1 ok1 hps => by
    subst e
    have h4 := pvs_map hps
    exact ⟨Nat.le_of_lt (small1000 (by rw [Paired.len h4]; exact hl)), fun p np => q _ _ (k p) _ F1 _ s1 (ok1.mkOwn (c := cY p r xs) np rfl ⟨⟨_, rfl, h4⟩, Nat.le_trans hl (by decide)⟩) rfl⟩
end
end L2
set_option Elab.async false
set_option linter.all false
set_option maxRecDepth 100000
set_option maxHeartbeats 4000000
namespace L2
open PySem PySem.Spec PyProof.Rows PySem.HErr
theorem mapD_comp {α β : Type} {f : α → (β → Prop) → Prop} {k : List β → Prop} : ∀ (xs : List α) (acc : List β), mapD xs acc f k = compD xs acc (fun x k => f x fun y => k (some y)) k
  | [], _ => rfl
  | x :: xs, acc => by
    show (f x fun y => mapD xs (acc ++ [y]) f k) = f x fun y => compD xs (acc ++ [y]) _ k
    congr 1
    funext y
    exact mapD_comp xs _
theorem mapD_pure {α β : Type} {f : α → β} {k : List β → Prop} : ∀ (xs : List α) (acc : List β), mapD xs acc (fun x k => k (f x)) k = k (acc ++ xs.map f)
  | [], acc => by simp [mapD]
  | x :: xs, acc => by
    show mapD xs (acc ++ [f x]) _ k = _
    rw [mapD_pure xs]
    simp
section
variable {fr : Fr} {Γ Γ' : Gam} {Θ Θ' : List Cel} {F F' H H' : Hp} {K : Vp → List Cel → Prop} {Q : VK}
theorem wi_yL {Kf : PySem.W.Frag} {tl : TE} {K : List Vp → List Cel → Prop} (w : We fr Γ Θ tl fun p Θ1 => ∃ (α : Type) (r : Rep α) (xs : List α), p = iz (yL r) xs ∧ (xs.length ≤ big → K (xs.map (iz r)) Θ1)) : Wi fr Γ Θ (iList Kf tl) K := fun σ F H ok env R q =>
  wi_list (fr := fr) (Γ := Γ) (Θ := Θ) (Kf := Kf) (tl := tl) (K := K) (fun σ F H ok env Q q => w σ F H ok env Q fun p Θ1 ⟨α, r, xs, e, k⟩ v F1 H1 s1 ok1 hp => by
    subst e
    exact q (iz (zL r) xs) Θ1 ⟨α, r, xs, rfl, k hp.2⟩ v F1 H1 s1 ok1 hp.1) σ F H ok env R q
theorem kn_forW {wi : TI} {g : TG} {tb : TS} {D : Ends} {α S : Type} {r : Rep α} (G : S → Gam) (T : S → List Cel) (s0 : S)
    (w : Wi fr Γ Θ wi fun its Θ1 => ∃ (xs : List α) (body : α → S → (S → Prop) → (S → Prop) → Prop) (after : S → Prop) (vs : List Nat) (Γ2 : α → S → Gam), its = xs.map (iz r) ∧ Θ1 = T s0 ∧ GLe Γ (G s0) ∧ (∀ x s, TgR g vs (iz r x) (G s) (Γ2 x s)) ∧ forD xs s0 body after ∧
      (∀ fr', FrLe fr fr' → ∀ x s nx M, (∀ s' Γ' Θ', nx s' → GLe Γ' (G s') → Θ' = T s' → Kn fr' Γ' Θ' M) → (∀ s' Γ' Θ', after s' → GLe Γ' (G s') → Θ' = T s' → Kn fr' Γ' Θ' D.nx) → body x s nx after → Kn fr' (Γ2 x s) (T s) (tb { D with nx := M, ct := M, bk := D.nx })) ∧
      (∀ s, after s → Kn fr (G s) (T s) D.nx)) : Kn fr Γ Θ (tFor wi g tb D) :=
  kn_for fun σ F H ok env R q => w σ F H ok env R fun its Θ1 ⟨xs, body, after, vs, Γ2, e1, e2, l0, tg, hf, hs, hd⟩ => q its Θ1 (by
    subst e1 e2
    refine ⟨fun i Γ1 Θ2 => ∃ s, Γ1 = G s ∧ Θ2 = T s ∧ forD (xs.drop i) s body after, ⟨G s0, l0, s0, rfl, rfl, hf⟩, fun fr' le i p Γ1 Θ2 hi ⟨s, eg, et, h⟩ => ?_, fun Γ1 Θ2 ⟨s, eg, et, h⟩ => ?_⟩
    · subst eg et
      obtain ⟨x, hx, rfl⟩ := get_izs hi
      rw [drop_at hx] at h
      refine ⟨vs, _, tg x s, hs fr' le x s _ _ (fun s' Γ' Θ' hn gl e => ?_) (fun s' Γ' Θ' hn gl e => ?_) h⟩
      · subst e
        exact kn_mid ⟨G s', gl, s', rfl, rfl, hn⟩
      · subst e
        exact ((hd s' hn).fine le).le gl
    · subst eg et
      rw [List.length_map, List.drop_length] at h
      exact hd s h)
theorem kn_whileW {c : TT} {tb : TS} {D : Ends} {S : Type} (G : S → Gam) (T : S → List Cel) (s0 : S) {step : S → (S → Prop) → (S → Prop) → Prop} {after : S → Prop} (h : whileD s0 step after) (l0 : GLe Γ (G s0)) (e0 : Θ = T s0)
    (hs : ∀ s nx M, (∀ s' Γ' Θ', nx s' → GLe Γ' (G s') → Θ' = T s' → Kn fr Γ' Θ' M) → (∀ s' Γ' Θ', after s' → GLe Γ' (G s') → Θ' = T s' → Kn fr Γ' Θ' D.nx) → step s nx after →
      Wt fr (G s) (T s) c fun b Θ1 => (b = true → Kn fr (G s) Θ1 (tb { D with nx := M, ct := M, bk := D.nx })) ∧ (b = false → Kn fr (G s) Θ1 D.nx))
    (hd : ∀ s, after s → Kn fr (G s) (T s) D.nx) : Kn fr Γ Θ (tWhile c tb D) := fun σ F H ok env => by
  subst e0
  obtain ⟨n0, h0⟩ := h
  refine ⟨fun m σ' H' => ∃ s F', whileN m s step after ∧ OkF fr (T s) F' H' ∧ EnvF (G s) σ' F', ⟨n0, s0, F, h0, ok, env.le l0⟩, ?_⟩
  rintro m σ1 H1 ⟨s, F1, hw, ok1, env1⟩
  cases m with
  | zero => exact hw.elim
  | succ m =>
    refine hs s (fun s' => whileN m s' step after) (Mid fr fun Γ Θ => ∃ s, Γ = G s ∧ Θ = T s ∧ whileN m s step after) (fun s' Γ' Θ' hn gl e => ?_) (fun s' Γ' Θ' hn gl e => ?_) hw σ1 F1 H1 ok1 env1 _ fun b Θ1 ⟨k1, k2⟩ F2 H2 s2 ok2 => ?_
    · subst e
      exact kn_mid ⟨G s', gl, s', rfl, rfl, hn⟩
    · subst e
      exact (hd s' hn).le gl
    · cases b with
      | true =>
        rw [if_pos rfl]
        refine ⟨_, ?_, k1 rfl σ1 F2 H2 ok2 (env1.mono s2)⟩
        rintro σ3 H3 ⟨Γ3, Θ3, F3, ⟨s3, rfl, rfl, hn⟩, ok3, env3⟩
        exact ⟨m, Nat.lt_succ_self m, s3, F3, hn, ok3, env3⟩
      | false =>
        rw [if_neg Bool.false_ne_true]
        exact k2 rfl σ1 F2 H2 ok2 (env1.mono s2)
theorem kn_cutW {t u : TS} {D : Ends} {S : Type} (G : S → Gam) (T : S → List Cel) {f : (S → Prop) → Prop} {k : S → Prop} (h : joinD f k)
    (hb : ∀ M, (∀ s' Γ' Θ', k s' → GLe Γ' (G s') → Θ' = T s' → Kn fr Γ' Θ' M) → f k → Kn fr Γ Θ (t { D with nx := M })) (hr : ∀ s, k s → Kn fr (G s) (T s) (u D)) : Kn fr Γ Θ (C8.tCut t u D) :=
  kn_cut (fun Γ Θ => ∃ s, Γ = G s ∧ Θ = T s ∧ k s) (hb _ (fun s' Γ' Θ' hn gl e => by
    subst e
    exact kn_mid ⟨G s', gl, s', rfl, rfl, hn⟩) h) fun Γ Θ ⟨s, e1, e2, hk⟩ => by
    subst e1 e2
    exact hr s hk
theorem wt_andC {K : Bool → List Cel → Prop} {t u : TT} (w : Wt fr Γ Θ t fun b Θ1 => (b = true → Wt fr Γ Θ1 u K) ∧ (b = false → K false Θ1)) : Wt fr Γ Θ (tAnd t u) K := fun σ F H ok env Q q =>
  w σ F H ok env _ fun b Θ1 ⟨k1, k2⟩ F1 H1 s1 ok1 => by
    cases b with
    | true => rw [if_pos rfl]; exact k1 rfl σ F1 H1 ok1 (env.mono s1) Q fun c Θ2 kk F2 H2 s2 => q c Θ2 kk F2 H2 (s1.trans s2)
    | false => rw [if_neg Bool.false_ne_true]; exact q false Θ1 (k2 rfl) F1 H1 s1 ok1
theorem wt_orC {K : Bool → List Cel → Prop} {t u : TT} (w : Wt fr Γ Θ t fun b Θ1 => (b = false → Wt fr Γ Θ1 u K) ∧ (b = true → K true Θ1)) : Wt fr Γ Θ (tOr t u) K := fun σ F H ok env Q q =>
  w σ F H ok env _ fun b Θ1 ⟨k2, k1⟩ F1 H1 s1 ok1 => by
    cases b with
    | true => rw [if_pos rfl]; exact q true Θ1 (k1 rfl) F1 H1 s1 ok1
    | false => rw [if_neg Bool.false_ne_true]; exact k2 rfl σ F1 H1 ok1 (env.mono s1) Q fun c Θ2 kk F2 H2 s2 => q c Θ2 kk F2 H2 (s1.trans s2)
theorem we_andC {t u : TE} (w : We fr Γ Θ t fun p Θ1 => ∃ b, p = iz zB b ∧ (b = true → We fr Γ Θ1 u K) ∧ (b = false → K (iz zB false) Θ1)) : We fr Γ Θ (tAndV t u) K := fun σ F H ok env Q q =>
  w σ F H ok env _ fun p Θ1 ⟨b, e, k1, k2⟩ v F1 H1 s1 ok1 hp => by
    subst e
    refine ⟨b, hp, ?_⟩
    cases b with
    | true => rw [if_pos rfl]; exact k1 rfl σ F1 H1 ok1 (env.mono s1) Q (q.mono s1)
    | false => rw [if_neg Bool.false_ne_true]; exact q _ Θ1 (k2 rfl) _ F1 H1 s1 ok1 rfl
theorem we_orC {t u : TE} (w : We fr Γ Θ t fun p Θ1 => ∃ b, p = iz zB b ∧ (b = false → We fr Γ Θ1 u K) ∧ (b = true → K (iz zB true) Θ1)) : We fr Γ Θ (tOrV t u) K := fun σ F H ok env Q q =>
  w σ F H ok env _ fun p Θ1 ⟨b, e, k2, k1⟩ v F1 H1 s1 ok1 hp => by
    subst e
    refine ⟨b, hp, ?_⟩
    cases b with
    | true => rw [if_pos rfl]; exact q _ Θ1 (k1 rfl) _ F1 H1 s1 ok1 rfl
    | false => rw [if_neg Bool.false_ne_true]; exact k2 rfl σ F1 H1 ok1 (env.mono s1) Q (q.mono s1)
theorem andK {b : Bool} {f : (Bool → Prop) → Prop} {k : Bool → Prop} {u : TT} {K : Bool → List Cel → Prop} (h : andD b f k) (x : f k → Wt fr Γ Θ u fun c Θ' => Θ' = Θ ∧ k c) (kk : ∀ c, k c → K c Θ) : (b = true → Wt fr Γ Θ u K) ∧ (b = false → K false Θ) :=
  ⟨fun e σ F H ok env Q q => x (h.1 e) σ F H ok env Q fun c Θ' ⟨e1, hc⟩ => q c Θ' (by rw [e1]; exact kk c hc), fun e => kk false (h.2 e)⟩
theorem orK {b : Bool} {f : (Bool → Prop) → Prop} {k : Bool → Prop} {u : TT} {K : Bool → List Cel → Prop} (h : orD b f k) (x : f k → Wt fr Γ Θ u fun c Θ' => Θ' = Θ ∧ k c) (kk : ∀ c, k c → K c Θ) : (b = false → Wt fr Γ Θ u K) ∧ (b = true → K true Θ) :=
  ⟨fun e σ F H ok env Q q => x (h.2 e) σ F H ok env Q fun c Θ' ⟨e1, hc⟩ => q c Θ' (by rw [e1]; exact kk c hc), fun e => kk true (h.1 e)⟩
theorem orKv {b : Bool} {f : (Bool → Prop) → Prop} {k : Bool → Prop} {u : TE} (h : orD b f k) (x : f k → We fr Γ Θ u fun p Θ' => Θ' = Θ ∧ ∃ c, p = iz zB c ∧ k c) (kk : ∀ c, k c → K (iz zB c) Θ) : ∃ b', iz zB b = iz zB b' ∧ (b' = false → We fr Γ Θ u K) ∧ (b' = true → K (iz zB true) Θ) :=
  ⟨b, rfl, fun e σ F H ok env Q q => x (h.2 e) σ F H ok env Q fun p Θ' ⟨e1, c, e2, hc⟩ => q p Θ' (by rw [e1, e2]; exact kk c hc), fun e => kk true (h.1 e)⟩
/-- a if c else b, of one kind; f is a way of both -/
theorem we_ifD {α : Type} {r : Rep α} {c : TT} {ta tb : TE} {k : α → Prop} (w : Wt fr Γ Θ c fun b Θ1 => Θ1 = Θ ∧ (b = true → We fr Γ Θ ta fun p Θ2 => Θ2 = Θ ∧ ∃ x, p = iz r x ∧ k x) ∧ (b = false → We fr Γ Θ tb fun p Θ2 => Θ2 = Θ ∧ ∃ x, p = iz r x ∧ k x)) (kk : ∀ x, k x → K (iz r x) Θ) : We fr Γ Θ (tIf c ta tb) K :=
  we_if fun σ F H ok env Q q => w σ F H ok env Q fun b Θ1 ⟨e, k1, k2⟩ => q b Θ1 (by
    subst e
    exact ⟨fun h => (k1 h).imp fun p Θ2 ⟨e1, x, e2, hx⟩ => by rw [e1, e2]; exact kk x hx, fun h => (k2 h).imp fun p Θ2 ⟨e1, x, e2, hx⟩ => by rw [e1, e2]; exact kk x hx⟩)
theorem we_lcW {α β : Type} {r : Rep α} {s : Rep β} {wi : TI} {g : TG} {tt : TT} {te : TE} {vs : List Nat}
    (w : Wi fr Γ Θ wi fun its Θ1 => ∃ (xs : List α) (f : α → (Option β → Prop) → Prop) (k : List β → Prop) (Γ2 : α → Gam), its = xs.map (iz r) ∧ Θ1 = Θ ∧ xs.length ≤ big ∧ (∀ x, TgR g vs (iz r x) (wipeG Γ vs) (Γ2 x)) ∧ compD xs [] f k ∧
      (∀ x c kx, f x kx → Wt fr (Γ2 x) (c :: Θ) tt fun b Θ1 => (b = true → We fr (Γ2 x) Θ1 te fun q Θ' => Θ' = c :: Θ ∧ ∃ y, q = iz s y ∧ kx (some y)) ∧ (b = false → Θ1 = c :: Θ ∧ kx none)) ∧
      (∀ ys, k ys → ys.length ≤ big → K (iz (yL s) ys) Θ)) : We fr Γ Θ (tLc wi g tt te vs) K := fun σ F H ok env Q q => by
  refine w σ F H ok env _ fun its Θ1 ⟨xs, f, k, Γ2, e1, e2, hl, tg, hc, hs, hk⟩ J F1 H1 s1 ok1 jok => ?_
  subst e1 e2
  intro D nD
  refine ⟨fun i m H' => m = xs.length - i ∧ i ≤ xs.length ∧ ∃ F2 ys, Same F1 F2 ∧ OkF fr (cL D s ys :: Θ1) F2 H' ∧ ys.length ≤ i ∧ compD (xs.drop i) ys f k, ⟨xs.length, by simp, Nat.zero_le _, F1, [], Same.refl _, ok1.mkOwn (c := cL D s []) nD rfl ⟨[], rfl, .nil⟩, Nat.le_refl _, hc⟩, ?_⟩
  rintro i m H' ⟨rfl, hi, F2, ys, s2, ok2, yl, py⟩
  obtain ⟨j1, j2⟩ := jok F2 H' s2 ok2.fh
  by_cases hlt : i < xs.length
  · have hx : xs[i]? = some xs[i] := List.getElem?_eq_getElem hlt
    generalize xs[i] = x at hx
    obtain ⟨jg, jy⟩ := j1 i (iz r x) (by rw [List.getElem?_map, hx]; rfl)
    refine .inr ⟨jg, fun H3 => ∃ F3 ys, Same F1 F3 ∧ OkF fr (cL D s ys :: Θ1) F3 H3 ∧ ys.length ≤ i + 1 ∧ compD (xs.drop (i + 1)) ys f k, fun H3 p => ⟨xs.length - (i + 1), by omega, rfl, hlt, p⟩, fun v H3 y => ?_⟩
    obtain ⟨F3, e1, e2, e3, e4, e5⟩ := jy v H3 y
    have ok3 := ok2.grow e2 e1 e3 e4
    have s3 := s2.trans e1
    have hd : xs.drop i = x :: xs.drop (i + 1) := by
      obtain ⟨hl, e⟩ := List.getElem?_eq_some_iff.mp hx
      rw [List.drop_eq_getElem_cons hl, e]
    rw [hd] at py
    refine tg x (L2.wipe σ vs) F3 H3 v ok3.fh ((env.mono (s1.trans s3)).wipe vs) e5 _ fun σ2 env2 hw => ⟨?_, ?_⟩
    · rw [hw, wipe_idem]
    · refine hs x _ _ py σ2 F3 H3 ok3 env2 _ fun b Θ2 ⟨k1, k2⟩ F4 H4 s4 ok4 => ?_
      cases b with
      | true =>
        rw [if_pos rfl]
        refine k1 rfl σ2 F4 H4 ok4 (env2.mono s4) _ fun p Θ3 ⟨e8, y, e9, hy⟩ u F5 H5 s5 ok5 hp => ?_
        subst e8 e9
        obtain ⟨_, ⟨o, h2, acc, rfl, h4⟩, _⟩ := ok5.ce _ (List.mem_cons_self ..)
        have ok6 := ok5.mut (i := 0) (c := cL D s ys) (c' := cL D s (ys ++ [y])) (o := .lst (acc ++ [u])) rfl rfl rfl ⟨_, rfl, PySem.Paired.snoc h4 hp⟩
        refine ⟨acc, h2, ?_, F5, ys ++ [y], (s3.trans s4).trans s5, ok6, by rw [List.length_append]; show _ + 1 ≤ _; omega, hy⟩
        rw [Paired.len h4]
        exact big_lt (by omega)
      | false =>
        rw [if_neg Bool.false_ne_true]
        obtain ⟨e8, hn⟩ := k2 rfl
        subst e8
        have hn : compD (xs.drop (i + 1)) (ys ++ []) f k := hn
        rw [List.append_nil] at hn
        exact ⟨F4, ys, s3.trans s4, ok4, by omega, hn⟩
  · have e : i = xs.length := by omega
    subst e
    rw [List.drop_length] at py
    obtain ⟨_, ⟨o, h2, acc, rfl, h4⟩, _⟩ := ok2.ce _ (List.mem_cons_self ..)
    have ok3 := ok2.frz (i := 0) (c := cL D s ys) rfl rfl h2
    have sD : Same F2 (upd F2 D (.lst acc)) := same_upd (ok2.ce _ (List.mem_cons_self ..)).1
    have yb : ys.length ≤ big := by omega
    refine .inl ⟨by rw [List.length_map] at j2; exact j2, q _ _ (hk ys py yb) _ _ H' ((s1.trans s2).trans sD) ok3 ⟨⟨D, acc, rfl, upd_same, Paired.imp2 (fun _ _ h => s.mono sD h) h4⟩, yb⟩⟩
/-- without a test -/
theorem we_lcM {α β : Type} {r : Rep α} {s : Rep β} {wi : TI} {g : TG} {te : TE} {vs : List Nat}
    (w : Wi fr Γ Θ wi fun its Θ1 => ∃ (xs : List α) (f : α → (β → Prop) → Prop) (k : List β → Prop) (Γ2 : α → Gam), its = xs.map (iz r) ∧ Θ1 = Θ ∧ xs.length ≤ big ∧ (∀ x, TgR g vs (iz r x) (wipeG Γ vs) (Γ2 x)) ∧ mapD xs [] f k ∧
      (∀ x c kx, f x kx → We fr (Γ2 x) (c :: Θ) te fun q Θ' => Θ' = c :: Θ ∧ ∃ y, q = iz s y ∧ kx y) ∧
      (∀ ys, k ys → ys.length ≤ big → K (iz (yL s) ys) Θ)) : We fr Γ Θ (tLc wi g tYes te vs) K :=
  we_lcW (r := r) (s := s) fun σ F H ok env R q => w σ F H ok env R fun its Θ1 ⟨xs, f, k, Γ2, e1, e2, hl, tg, hm, he, hk⟩ => q its Θ1 ⟨xs, fun x k => f x fun y => k (some y), k, Γ2, e1, e2, hl, tg, by rw [← mapD_comp]; exact hm,
    fun x c kx h => wt_yes ⟨fun _ => (he x c _ h), (fun h => nomatch h)⟩, hk⟩
theorem we_lcM0 {α β : Type} {r : Rep α} {s : Rep β} {wi : TI} {g : TG} {te : TE} {vs : List Nat}
    (w : Wi fr Γ Θ wi fun its Θ1 => ∃ (xs : List α) (f : α → β) (Γ2 : α → Gam), its = xs.map (iz r) ∧ Θ1 = Θ ∧ xs.length ≤ big ∧ (∀ x, TgR g vs (iz r x) (wipeG Γ vs) (Γ2 x)) ∧
      (∀ x c, Ev fr (Γ2 x) (c :: Θ) te (iz s (f x))) ∧ K (iz (yL s) (xs.map f)) Θ) : We fr Γ Θ (tLc wi g tYes te vs) K :=
  we_lcM (r := r) (s := s) fun σ F H ok env R q => w σ F H ok env R fun its Θ1 ⟨xs, f, Γ2, e1, e2, hl, tg, he, k⟩ => q its Θ1 ⟨xs, fun x k => k (f x), (· = xs.map f), Γ2, e1, e2, hl, tg, by rw [mapD_pure]; rfl,
    fun x c kx h => (he x c).imp fun p Θ' ⟨e3, e4⟩ => ⟨e4, _, e3, h⟩, fun ys e _ => by rw [e]; exact k⟩
theorem kn_appY {Kf : PySem.W.Frag} {α : Type} {r : Rep α} {xs : List α} {a : Addr} {i j : Nat} {te : TE} {D : Ends} (hi : Γ[i]? = some (some (zAt a))) (hj : Θ[j]? = some (cY a r xs))
    (w : We fr Γ Θ te fun p Θ1 => ∃ x, p = iz r x ∧ Θ1[j]? = some (cY a r xs) ∧ xs.length < big ∧ Kn fr Γ (Θ1.set j (cY a r (xs ++ [x]))) D.nx) : Kn fr Γ Θ (tDrop (tBM Kf "list" rAppend (tVar i) (tCons te tNil)) D) := by
  refine kn_drop (we_bm (we_var hi ⟨fun F H v ok hv => ?_, wa_cons (w.imp fun p Θ1 ⟨x, e, hj1, hl, k⟩ => wa_nil ?_)⟩))
  · obtain ⟨_, ⟨o, h2, ⟨⟨vs, rfl, h4⟩, h5⟩⟩, _⟩ := ok.ce _ (List.mem_of_getElem? hj)
    have hv : v = .ref a := hv
    subst hv
    exact .inl ⟨rfl, vs, SqL.of h2⟩
  · subst e
    intro F H v vs ok hv hps Q q
    cases hps with
    | cons h1 hp => cases hp with
      | nil =>
        obtain ⟨_, ⟨o, h2, ⟨⟨us, rfl, h4⟩, h5⟩⟩, _⟩ := ok.ce _ (List.mem_of_getElem? hj1)
        have ok2 := ok.mut (c' := cY a r (xs ++ [x])) (o := .lst (us ++ [_])) hj1 rfl rfl ⟨⟨_, rfl, PySem.Paired.snoc h4 h1⟩, by rw [List.length_append]; exact hl⟩
        exact ⟨a, us, _, hv, rfl, h2, by rw [Paired.len h4]; exact big_lt (Nat.le_of_lt hl), q zNon _ k _ F _ (Same.refl F) ok2 rfl⟩
theorem kn_setY {α : Type} {r : Rep α} {xs : List α} {a : Addr} {i j : Nat} {te ti : TE} {D : Ends} (hi : Γ[i]? = some (some (zAt a)))
    (w : We fr Γ Θ te fun p Θ1 => We fr Γ Θ1 ti fun q Θ2 => ∃ x n m, p = iz r x ∧ q = iz zI n ∧ Θ2[j]? = some (cY a r xs) ∧ ixN xs.length n = some m ∧ Kn fr Γ (Θ2.set j (cY a r (xs.set m x))) D.nx) : Kn fr Γ Θ (tAsg te (gSub (tVar i) ti rSetL) D) := fun σ F H ok env =>
  w σ F H ok env _ fun p Θ1 k v F1 H1 s1 ok1 hp => by
    obtain ⟨v0, h1, h2⟩ := (env.mono s1).get hi
    have h2 : v0 = .ref a := h2
    subst h2
    refine ⟨_, h1, k σ F1 H1 ok1 (env.mono s1) _ fun q Θ2 ⟨x, n, m, e1, e2, hj, hm, k2⟩ w2 F2 H2 s2 ok2 hp2 => ?_⟩
    subst e1 e2
    obtain ⟨_, ⟨o, h3, ⟨⟨us, rfl, h4⟩, h5⟩⟩, _⟩ := ok2.ce _ (List.mem_of_getElem? hj)
    exact ⟨a, us, n, m, rfl, hp2, h3, by rw [Paired.len h4]; exact hm, k2 σ F2 _ (ok2.mut hj rfl rfl ⟨⟨_, rfl, Paired.set (r.mono s2 hp) m h4⟩, by rw [List.length_set]; exact h5⟩) ((env.mono s1).mono s2)⟩
theorem set_same {σ : L2.St} {i : Nat} {v : V} (h : σ[i]? = some (some v)) : σ.set i (some v) = σ := by
  apply List.ext_getElem?
  intro m
  rw [List.getElem?_set]
  split
  · rename_i q
    subst q
    rw [if_pos (List.getElem?_eq_some_iff.mp h).1, h]
  · rfl
theorem kn_frzY {α : Type} {r : Rep α} {xs : List α} {a : Addr} {i j : Nat} {P : L2.St → Hp → Prop} (hi : Γ[i]? = some (some (zAt a))) (hj : Θ[j]? = some (cY a r xs)) (k : Kn fr (Γ.set i (some (iz (yL r) xs))) (Θ.eraseIdx j) P) : Kn fr Γ Θ P := fun σ F H ok env => by
  obtain ⟨v, h1, h2⟩ := env.get hi
  have h2 : v = .ref a := h2
  subst h2
  obtain ⟨h0, ⟨o, h3, ⟨⟨vs, rfl, h5⟩, h6⟩⟩, _⟩ := ok.ce _ (List.mem_of_getElem? hj)
  have h3 : H a = some (.lst vs) := h3
  have ok2 := ok.frz hj rfl h3
  have s2 : Same F (upd F a (.lst vs)) := same_upd h0
  have := (env.mono s2).set (i := i) (p := iz (yL r) xs) (v := .ref a) ⟨⟨a, vs, rfl, upd_same, Paired.imp2 (fun _ _ h => r.mono s2 h) h5⟩, h6⟩
  rw [set_same h1] at this
  exact k σ _ H ok2 this
theorem rt_frzY {α : Type} {r : Rep α} {xs : List α} {a : Addr} {j : Nat} {rt : VK} (hj : Θ[j]? = some (cY a r xs)) (k : Rt fr (Θ.eraseIdx j) rt (iz (yL r) xs)) : Rt fr Θ rt (zAt a) := fun v F H ok hp => by
  have hp : v = .ref a := hp
  subst hp
  obtain ⟨h0, ⟨o, h3, ⟨⟨vs, rfl, h5⟩, h6⟩⟩, _⟩ := ok.ce _ (List.mem_of_getElem? hj)
  have h3 : H a = some (.lst vs) := h3
  have ok2 := ok.frz hj rfl h3
  exact k _ _ H ok2 ⟨⟨a, vs, rfl, upd_same, Paired.imp2 (fun _ _ h => r.mono (same_upd h0) h) h5⟩, h6⟩
theorem kn_augI {f : Int → Int → Int} {i : Nat} {te : TE} {D : Ends} {m : Int} (hi : Γ[i]? = some (some (iz zI m))) (w : We fr Γ Θ te fun p Θ1 => ∃ n, p = iz zI n ∧ Kn fr (Γ.set i (some (iz zI (f m n)))) Θ1 D.nx) : Kn fr Γ Θ (tAug i te (ipI f) D) := fun σ F H ok env => by
  obtain ⟨v, h1, h2⟩ := env.get hi
  have h2 : v = .int m := h2
  subst h2
  refine ⟨_, h1, w σ F H ok env _ fun p Θ1 ⟨n, e, k⟩ y F1 H1 s1 ok1 hp => ?_⟩
  subst e
  exact ⟨m, n, rfl, hp, k _ F1 H1 ok1 ((env.mono s1).set rfl)⟩
theorem kn_par {i j : Nat} {ta : TA} {D : Ends} (w : Wa fr Γ Θ ta fun ps Θ1 => ∃ p q, ps = [p, q] ∧ Kn fr ((Γ.set i (some p)).set j (some q)) Θ1 D.nx) : Kn fr Γ Θ (tPar i j ta D) := fun σ F H ok env =>
  w σ F H ok env _ fun ps Θ1 ⟨p, q, e, k⟩ vs F1 H1 s1 ok1 hps => by
    subst e
    cases hps with
    | cons h1 hp => cases hp with
      | cons h2 hp => cases hp with
        | nil => exact ⟨_, _, rfl, k _ F1 H1 ok1 (((env.mono s1).set h1).set h2)⟩
theorem kn_fall {rt : VK} (k : Rt fr Θ rt (iz yN ())) : Kn fr Γ Θ (fun _ H' => rt .non H') := fun σ F H ok env => k .non F H ok rfl
end
end L2
set_option Elab.async false
set_option linter.all false
set_option maxRecDepth 100000
set_option maxHeartbeats 4000000
namespace L2
open PySem PySem.Spec PyProof.Rows PySem.HErr
def preW {α β : Type} (ef : HE → Er) (args : α → List Vp) (r : Rep β) (m : α → DM β) : Pre := fun ps out err => ∃ x Q X, ps = args x ∧ m x Q X ∧ out = (fun p => ∃ y, Q y ∧ p = iz r y) ∧ err = fun e => ∃ z, X z ∧ e = ef z
def preBW {α β : Type} (args : α → List Vp) (r : Rep β) (m : α → DM β) : PreB := fun qs o => ∃ x Q, qs = args x ∧ m x Q noX ∧ o = fun p => ∃ y, Q y ∧ p = iz r y
def RetW {β : Type} (fr : Fr) (Qv : VK) (r : Rep β) (Q : β → Prop) : Prop := ∀ y, Q y → ∀ Θ, Rt fr Θ Qv (iz r y)
def RetBW {β : Type} (fr : Fr) (b l : Addr) (Qv : VK) (r : Rep β) (Q : β → Prop) : Prop := ∀ y, Q y → ∀ Θ, cBox true b l ∈ Θ → Rt fr Θ Qv (iz r y)
def RseW (fr : Fr) (E : XK) (ef : HE → Er) (X : HE → Prop) : Prop := ∀ z, X z → ∀ Γ Θ, Kr fr Γ Θ (fun cls d _ H => E cls d H) (ef z)
section
variable {fr fr' : Fr} {Γ Γ' : Gam} {Θ Θ' : List Cel} {F F' H H' : Hp} {K : Vp → List Cel → Prop} {Qv : VK}
theorem RetW.fine {β : Type} {r : Rep β} {Q : β → Prop} (h : RetW fr Qv r Q) (l : FrLe fr fr') : RetW fr' Qv r Q := fun y hy Θ => (h y hy Θ).fine l
theorem RetBW.fine {β : Type} {b l : Addr} {r : Rep β} {Q : β → Prop} (h : RetBW fr b l Qv r Q) (le : FrLe fr fr') : RetBW fr' b l Qv r Q := fun y hy Θ hc => (h y hy Θ hc).fine le
theorem RseW.fine {E : XK} {ef : HE → Er} {X : HE → Prop} (h : RseW fr E ef X) (l : FrLe fr fr') : RseW fr' E ef X := fun z hz Γ Θ σ F H ok env d us hd hf => h z hz Γ Θ σ F H (ok.le l) env d us hd hf
theorem sps_W {α β : Type} {ef : HE → Er} {args : α → List Vp} {r : Rep β} {m : α → DM β} {E : L2.St → XK} {ps : List Vp} {Q : β → Prop} {X : HE → Prop} (x : α) (h : m x Q X) (k : ∀ y, Q y → K (iz r y) Θ) (xx : ∀ z, X z → Kr fr Γ Θ (fun cls d σ H => E σ cls d H) (ef z)) (e : ps = args x := by rfl) : Sps fr Γ Θ (spA (preW ef args r m)) E ps K :=
  sps_A ⟨x, Q, X, e, h, rfl, rfl⟩ (fun p ⟨y, hy, e⟩ => by rw [e]; exact k y hy) fun er ⟨z, hz, e⟩ => by rw [e]; exact xx z hz
/-- nothing is raised -/
theorem sps_W0 {α β : Type} {ef : HE → Er} {args : α → List Vp} {r : Rep β} {m : α → DM β} {E : L2.St → XK} {ps : List Vp} {Q : β → Prop} (x : α) (h : m x Q noX) (k : ∀ y, Q y → K (iz r y) Θ) (e : ps = args x := by rfl) : Sps fr Γ Θ (spA (preW ef args r m)) E ps K := sps_W x h k (fun z hz => hz.elim) e
/-- what is raised leaves the def -/
theorem sps_WE {α β : Type} {ef : HE → Er} {args : α → List Vp} {r : Rep β} {m : α → DM β} {E : XK} {ps : List Vp} {Q : β → Prop} {X : HE → Prop} (hx : RseW fr E ef X) (x : α) (h : m x Q X) (k : ∀ y, Q y → K (iz r y) Θ) (e : ps = args x := by rfl) : Sps fr Γ Θ (spA (preW ef args r m)) (fun _ => E) ps K := sps_W x h k (fun z hz => hx z hz Γ Θ) e
def drawD (m : Int) (k : Int → Prop) : Prop := 0 < m ∧ m ≤ 10 ^ 40 ∧ ∀ n, 0 ≤ n → n < m → k n
section
variable {Kf : PySem.W.Frag} {mg : Str → Option Value} {C : Addr} {d : PlanD}
theorem FldR.conv {f : Str} {p q q' : Vp} (h : FldR Kf f p q) (hq : ∀ F v u, p.p F v → q.p F u → q'.p F u) : FldR Kf f p q' := fun F v hp => by
  obtain ⟨a, C, dx, fs, u, h1, h2, h3, h4, h5, h6⟩ := h F v hp
  exact ⟨a, C, dx, fs, u, h1, h2, h3, h4, h5, hq F v u hp h6⟩
theorem PlanOk.nw (h : PlanOk d) {z : Str} (hz : z ∈ d.names) : Wd z := by
  obtain ⟨r, hr, rfl⟩ := List.mem_map.mp hz
  exact (h.st r hr).1
theorem KVs.imp {α : Type} {r s : Rep α} {kvs : List (Key × V)} {rows : List (Str × α)} (h : KVs r F kvs rows) (f : ∀ v x, x ∈ rows → r.p F v x.2 → s.p F v x.2) : KVs s F kvs rows := by
  have : ∀ {kvs : List (Key × V)} {rows : List (Str × α)}, KVs r F kvs rows → (∀ v x, x ∈ rows → r.p F v x.2 → s.p F v x.2) → KVs s F kvs rows := by
    intro kvs rows h
    induction h with
    | nil => intro _; exact .nil
    | cons a _ ih => intro f; exact .cons ⟨a.1, f _ _ (List.mem_cons_self ..) a.2⟩ (ih fun v x hx => f v x (List.mem_cons_of_mem _ hx))
  exact this h f
end
theorem kn_raiseY {tm : Bool} {C : Addr} {fs : List Str} {W : WX} {ta : TA} {D : Ends} (w : Wa fr Γ Θ ta fun ps Θ1 => ps.length = fs.length ∧ (tm = true → ∃ z r, ps = iz yS z :: r ∧ z.length ≤ 1000) ∧ Kr fr Γ Θ1 W ⟨C, (fs.zip ps).reverse⟩) : Kn fr Γ Θ (tRaiseE tm C fs W ta D) := fun σ F H ok env =>
  w σ F H ok env _ fun ps Θ1 ⟨hl, ht, k⟩ vs F1 H1 s1 ok1 hps => by
    refine ⟨by rw [← Paired.len hps]; exact hl, fun h => ?_, fun d nd => ?_⟩
    · obtain ⟨z, r, e, hz⟩ := ht h
      subst e
      cases hps with
      | cons a b => exact ⟨z, _, by rw [a.1.1], hz⟩
    · have s2 := ok1.sameF (o := .xd (fs.zip vs).reverse) nd
      exact k σ _ _ (ok1.new nd) ((env.mono s1).mono s2) d _ upd_same (Paired.rev (zip_ok (fs := fs) (ps_mono s2 hps)))
def erW (cs : EK → Addr) : HE → Er
  | .tooMany k l => ⟨cs .tooMany, [("limit", iz zI l), ("kind", iz yS k)]⟩
  | .badWord w => ⟨cs .badWord, [("word", iz yS w)]⟩
  | .double n => ⟨cs .double, [("name", iz yS n)]⟩
  | .badNumber n => ⟨cs .badNumber, [("number", iz zI n)]⟩
  | .empty n => ⟨cs .empty, [("name", iz yS n)]⟩
  | .unknown n => ⟨cs .unknown, [("name", iz yS n)]⟩
  | .inUse n => ⟨cs .inUse, [("name", iz yS n)]⟩
  | .badState ns => ⟨cs .badState, [("numbers", iz (yT zI) ns)]⟩
  | .notReady s p i => ⟨cs .notReady, [("at", iz zI i), ("place", iz yS p), ("step", iz yS s)]⟩
  | .notSound d => ⟨cs .notSound, [("paper", iz yX d)]⟩
  | .badPair n => ⟨cs .badPair, [("name", iz yS n)]⟩
  | .badText n => ⟨cs .badText, [("line_number", iz zI n)]⟩
  | .noUndo => ⟨cs .noUndo, []⟩
instance : Dat yS := ⟨PyData.str, 0, fun h => Dat.dp (r := zS) h.1, fun h => Dat.ok (r := zS) h.1, fun x => Dat.dl (r := zS) x, fun h => Dat.inj (r := zS) h⟩
instance {α : Type} {r : Rep α} [d : Dat r] : Dat (yL r) := ⟨Dat.enc (zL r), Dat.dep (zL r), fun h => Dat.dp (r := zL r) h.1, fun h => Dat.ok (r := zL r) h.1, fun x => Dat.dl (r := zL r) x, fun h => Dat.inj (r := zL r) h⟩
instance {α : Type} [TNar α] {r : Rep α} [d : Dat r] : Dat (yT r) := ⟨Dat.enc (zT r), Dat.dep (zT r), fun h => Dat.dp (r := zT r) h.1, fun h => Dat.ok (r := zT r) h.1, fun x => Dat.dl (r := zT r) x, fun h => Dat.inj (r := zT r) h⟩
end
section
variable {P : Program} {w : World} {K : PySem.W.Frag} {mg : Str → Option Value} {base : Heap} {x m qual : Str} {C : Addr} {st : Stmt} {N ps : List Str} {k : Nat} {α β : Type} {ef : HE → Er} {args : α → List Vp} {r : Rep β} {md : α → DM β}
theorem Src.okW (F : Src K mg x st ps) (S : FnScope N ps (defScope st)) (len : ∀ x, (args x).length = ps.length)
    (hbody : ∀ (f : Addr) (cdv : Value) (A : Around) (outer : List Env) (s : Shared) (H : Hp) (E : XK) (a : α) (Q : β → Prop) (X : HE → Prop), Room k (A.deeper (envOfC x (defScope st) s.heap.objs.size f cdv)) → md a Q X →
      ∃ t, PSs (cxOf CX0 P w K mg base N x (defScope st) f cdv A outer s H E).nox (defBody st) t ∧ ∀ fr Qv, RetW fr Qv r Q → Kn fr (envOf N (args a)) [] (t { nx := fun _ H' => Qv .non H', rt := Qv })) : Def P w K mg base CX0 (k + 1) x ps (spA (preW ef args r md)) :=
  F.okA S (fun qs out err ⟨a, Q, X, e, _⟩ => by rw [e]; exact len a) fun f cdv A outer s H E qs out err hr ⟨a, Q, X, e1, h, e2, e3⟩ => by
    subst e1 e2 e3
    obtain ⟨t, ht, hk⟩ := hbody f cdv A outer s H E a Q X hr h
    exact ⟨t, ht, fun fr Qv hret => hk fr Qv fun y hy Θ => hret _ ⟨y, hy, rfl⟩ Θ⟩
theorem Src.okWX (F : Src K mg x st ps) (S : FnScope N ps (defScope st)) (len : ∀ x, (args x).length = ps.length)
    (hbody : ∀ (f : Addr) (cdv : Value) (A : Around) (outer : List Env) (s : Shared) (H : Hp) (E : XK) (a : α) (Q : β → Prop) (X : HE → Prop), Room k (A.deeper (envOfC x (defScope st) s.heap.objs.size f cdv)) → md a Q X →
      ∃ t, PSs (cxOf (L2.CX P w) P w K mg base N x (defScope st) f cdv A outer s H E) (defBody st) t ∧ ∀ fr Qv, RetW fr Qv r Q → RseW fr E ef X → Kn fr (envOf N (args a)) [] (t { nx := fun _ H' => Qv .non H', rt := Qv })) : Def P w K mg base (L2.CX P w) (k + 1) x ps (spA (preW ef args r md)) :=
  F.okAX S (fun qs out err ⟨a, Q, X, e, _⟩ => by rw [e]; exact len a) fun f cdv A outer s H E qs out err hr ⟨a, Q, X, e1, h, e2, e3⟩ => by
    subst e1 e2 e3
    obtain ⟨t, ht, hk⟩ := hbody f cdv A outer s H E a Q X hr h
    exact ⟨t, ht, fun fr Qv hret hrse => hk fr Qv (fun y hy Θ => hret _ ⟨y, hy, rfl⟩ Θ) fun z hz Γ Θ => kr_E hrse ⟨z, hz, rfl⟩⟩
theorem SrcM.okW (F : SrcM K C m qual st ps) (S : FnScope N ps (defScope st)) (len : ∀ x, (args x).length = ps.length)
    (hbody : ∀ (f : Addr) (cdv : Value) (A : Around) (outer : List Env) (s : Shared) (H : Hp) (E : XK) (a : α) (Q : β → Prop) (X : HE → Prop), Room k (A.deeper (envOfC qual (defScope st) s.heap.objs.size f cdv)) → md a Q X →
      ∃ t, PSs (cxOf CX0 P w K mg base N qual (defScope st) f cdv A outer s H E).nox (defBody st) t ∧ ∀ fr Qv, RetW fr Qv r Q → Kn fr (envOf N (args a)) [] (t { nx := fun _ H' => Qv .non H', rt := Qv })) : DefM P w K mg base CX0 (k + 1) C m ps (spA (preW ef args r md)) :=
  F.okA S (fun qs out err ⟨a, Q, X, e, _⟩ => by rw [e]; exact len a) fun f cdv A outer s H E qs out err hr ⟨a, Q, X, e1, h, e2, e3⟩ => by
    subst e1 e2 e3
    obtain ⟨t, ht, hk⟩ := hbody f cdv A outer s H E a Q X hr h
    exact ⟨t, ht, fun fr Qv hret => hk fr Qv fun y hy Θ => hret _ ⟨y, hy, rfl⟩ Θ⟩
theorem SrcM.okWX (F : SrcM K C m qual st ps) (S : FnScope N ps (defScope st)) (len : ∀ x, (args x).length = ps.length)
    (hbody : ∀ (f : Addr) (cdv : Value) (A : Around) (outer : List Env) (s : Shared) (H : Hp) (E : XK) (a : α) (Q : β → Prop) (X : HE → Prop), Room k (A.deeper (envOfC qual (defScope st) s.heap.objs.size f cdv)) → md a Q X →
      ∃ t, PSs (cxOf (L2.CX P w) P w K mg base N qual (defScope st) f cdv A outer s H E) (defBody st) t ∧ ∀ fr Qv, RetW fr Qv r Q → RseW fr E ef X → Kn fr (envOf N (args a)) [] (t { nx := fun _ H' => Qv .non H', rt := Qv })) : DefM P w K mg base (L2.CX P w) (k + 1) C m ps (spA (preW ef args r md)) :=
  F.okAX S (fun qs out err ⟨a, Q, X, e, _⟩ => by rw [e]; exact len a) fun f cdv A outer s H E qs out err hr ⟨a, Q, X, e1, h, e2, e3⟩ => by
    subst e1 e2 e3
    obtain ⟨t, ht, hk⟩ := hbody f cdv A outer s H E a Q X hr h
    exact ⟨t, ht, fun fr Qv hret hrse => hk fr Qv (fun y hy Θ => hret _ ⟨y, hy, rfl⟩ Θ) fun z hz Γ Θ => kr_E hrse ⟨z, hz, rfl⟩⟩
end
end L2
set_option Elab.async false
set_option linter.all false
set_option maxRecDepth 100000
set_option maxHeartbeats 4000000
namespace L2
open PySem PySem.Spec PyProof.Rows PySem.HErr
def optD {α : Type} (o : Option α) (A : Prop) (B : α → Prop) : Prop := (o = none → A) ∧ ∀ y, o = some y → B y
section
variable {fr fr' : Fr} {Γ Γ' : Gam} {Θ Θ' : List Cel} {F F' H H' : Hp} {K : Vp → List Cel → Prop} {Qv : VK}
theorem wt_andP {K : Bool → List Cel → Prop} {t u : TT} (w : Wt fr Γ Θ t fun b Θ1 => ∃ c, (b = true → Et fr Γ Θ1 u c) ∧ K (b && c) Θ1) : Wt fr Γ Θ (tAnd t u) K :=
  wt_andC fun σ F H ok env Q q => w σ F H ok env Q fun b Θ1 ⟨c, h1, k⟩ => q b Θ1 ⟨fun e σ F H ok env Q q => h1 e σ F H ok env Q fun c' Θ' ⟨e1, e2⟩ => q c' Θ' (by
    subst e1 e2 e
    exact k), fun e => by
    subst e
    exact k⟩
theorem wt_orP {K : Bool → List Cel → Prop} {t u : TT} (w : Wt fr Γ Θ t fun b Θ1 => ∃ c, (b = false → Et fr Γ Θ1 u c) ∧ K (b || c) Θ1) : Wt fr Γ Θ (tOr t u) K :=
  wt_orC fun σ F H ok env Q q => w σ F H ok env Q fun b Θ1 ⟨c, h1, k⟩ => q b Θ1 ⟨fun e σ F H ok env Q q => h1 e σ F H ok env Q fun c' Θ' ⟨e1, e2⟩ => q c' Θ' (by
    subst e1 e2 e
    exact k), fun e => by
    subst e
    exact k⟩
theorem we_andP {t u : TE} (w : We fr Γ Θ t fun p Θ1 => ∃ b c, p = iz zB b ∧ (b = true → Ev fr Γ Θ1 u (iz zB c)) ∧ K (iz zB (b && c)) Θ1) : We fr Γ Θ (tAndV t u) K :=
  we_andC (w.imp fun p Θ1 ⟨b, c, e, h1, k⟩ => ⟨b, e, fun e => (h1 e).imp fun p Θ' ⟨e1, e2⟩ => by
    subst e1 e2 e
    exact k, fun e => by
    subst e
    exact k⟩)
instance : NotNon yS := ⟨fun F v x h => by rw [h.1.1]; exact fun q => by cases q⟩
instance {α : Type} {r : Rep α} : NotNon (yL r) := ⟨fun F v x h => NotNon.nn (r := zL r) F v x h.1⟩
instance {α : Type} [TNar α] {r : Rep α} : NotNon (yT r) := ⟨fun F v x h => NotNon.nn (r := zT r) F v x h.1⟩
instance {α : Type} {r : Rep α} : NotNon (yD r) := ⟨fun F v x ⟨⟨a, kvs, h, _⟩, _⟩ => by rw [h]; exact fun q => by cases q⟩
instance {α β : Type} {r : Rep α} {s : Rep β} : NotNon (zLp r s) := ⟨fun F v x ⟨a, u, w, h, _⟩ => by rw [h]; exact fun q => by cases q⟩
instance {α β γ δ : Type} {r : Rep α} {s : Rep β} {t : Rep γ} {u : Rep δ} : NotNon (z4 r s t u) := ⟨fun F v x ⟨a, v1, v2, v3, v4, h, _⟩ => by rw [h]; exact fun q => by cases q⟩
instance {C : Addr} : NotNon (zPlan C) := ⟨fun F v x ⟨a, h, _⟩ => by rw [h]; exact fun q => by cases q⟩
theorem oy_isO {α : Type} {r : Rep α} [NotNon r] {o : Option α} (k : K (iz zB o.isNone) Θ) : Ops fr Θ (fun x y H Q => y = .non ∧ Q (.bl (decide (x = .non))) H) (iz (yO r) o) (iz yN ()) K := fun F H v w ok hv hw Q q => by
  refine ⟨hw, q.go k ok ?_⟩
  show V.bl _ = V.bl _
  cases o with
  | none => rw [show v = .non from hv]; rfl
  | some x => rw [decide_eq_false (NotNon.nn F v x hv)]; rfl
theorem oy_notO {α : Type} {r : Rep α} [NotNon r] {o : Option α} (k : K (iz zB o.isSome) Θ) : Ops fr Θ (fun x y H Q => y = .non ∧ Q (.bl (!decide (x = .non))) H) (iz (yO r) o) (iz yN ()) K := fun F H v w ok hv hw Q q => by
  refine ⟨hw, q.go k ok ?_⟩
  show V.bl _ = V.bl _
  cases o with
  | none => rw [show v = .non from hv]; rfl
  | some x => rw [decide_eq_false (NotNon.nn F v x hv)]; rfl
theorem optKn {α : Type} {o : Option α} {A : Prop} {B : α → Prop} {G1 G2 : Prop} (h : optD o A B) (h1 : o = none → A → G1) (h2 : ∀ y, o = some y → B y → G2) : (o.isSome = true → G2) ∧ (o.isSome = false → G1) := by
  cases o with
  | none => exact ⟨(fun e => by cases e), fun _ => h1 rfl (h.1 rfl)⟩
  | some y => exact ⟨fun _ => h2 y rfl (h.2 y rfl), (fun e => by cases e)⟩
theorem ty_L' {Kf : PySem.W.Frag} {α : Type} {r : Rep α} {xs : List α} : TruP fr Θ Kf (iz (yL r) xs) (!xs.isEmpty) := fun F H v ok h => tru_L F H v ok h.1
theorem le_Os {α : Type} {r : Rep α} {x : α} : (iz r x).Le (iz (yO r) (some x)) := fun F v h => h
theorem le_On {α : Type} {r : Rep α} : (iz yN ()).Le (iz (yO r) none) := fun F v h => h
theorem kn_asgL {α : Type} {r : Rep α} {te : TE} {i : Nat} {D : Ends} (w : We fr Γ Θ te fun p Θ1 => ∃ v : α, p = iz r v ∧ ∀ v', v' = v → Kn fr (Γ.set i (some (iz r v'))) Θ1 D.nx) : Kn fr Γ Θ (tAsg te (gName i) D) := kn_asg (w.imp fun p Θ1 ⟨v, e, k⟩ => by
  subst e
  exact k v rfl)
theorem ty_yL {Kf : PySem.W.Frag} {α : Type} {r : Rep α} {xs : List α} : TyP fr Θ Kf (iz (yL r) xs) (.type "list") := fun F H v ok h => ty_L F H v ok h.1
theorem intsF_big {n : Int} (h : n ≤ 100000) : (intsF 0 n.toNat).length ≤ big := by
  rw [intsF_len]
  have : big = 100000 := rfl
  omega
end
end L2
set_option Elab.async false
set_option linter.all false
set_option maxRecDepth 100000
set_option maxHeartbeats 4000000
namespace L2
open PySem PySem.Spec PyProof.Rows PySem.HErr
section
variable {fr fr' : Fr} {Γ Γ' : Gam} {Θ Θ' : List Cel} {F F' H H' : Hp} {K : Vp → List Cel → Prop} {Qv : VK}
theorem depth_mem {ds : List PyData} {d : PyData} {n : Nat} (h : PyData.depthAll ds ≤ n) (hd : d ∈ ds) : d.depth ≤ n := by
  induction ds with
  | nil => cases hd
  | cons a l ih =>
    simp only [PyData.depthAll] at h
    rcases List.mem_cons.mp hd with rfl | hd
    · omega
    · exact ih (by omega) hd
theorem xpAll_pvs : ∀ {ds : List PyData} {vs : List V}, xpAll F ds vs → (∀ d ∈ ds, d.depth ≤ 60) → PVs yX F vs ds
  | [], _, h, _ => by simp only [xpAll] at h; subst h; exact .nil
  | d :: ds, _, h, hd => by
    simp only [xpAll] at h
    obtain ⟨v, r, rfl, h2, h3⟩ := h
    exact .cons ⟨h2, hd d (List.mem_cons_self ..)⟩ (xpAll_pvs h3 fun x hx => hd x (List.mem_cons_of_mem _ hx))
class XDat {α : Type} (r : Rep α) where
  enc : α → PyData
  dep : Nat
  xd : ∀ {F : Hp} {v : V} {x : α}, r.p F v x → xp F (enc x) v ∧ (enc x).depth ≤ dep
instance : XDat yX := ⟨id, 60, fun h => h⟩
instance : XDat zI := ⟨PyData.int, 0, fun h => by simp only [xp, PyData.depth]; exact ⟨h, Nat.le_refl _⟩⟩
instance : XDat yN := ⟨fun _ => PyData.none, 0, fun h => by simp only [xp, PyData.depth]; exact ⟨h, Nat.le_refl _⟩⟩
instance : XDat yS := ⟨PyData.str, 0, fun h => by simp only [xp, PyData.depth]; exact ⟨⟨h.1.1, h.1.2, h.2⟩, Nat.le_refl _⟩⟩
theorem xd_all {α : Type} {r : Rep α} [d : XDat r] {vs : List V} {xs : List α} (h : PVs r F vs xs) : xpAll F (xs.map d.enc) vs ∧ PyData.depthAll (xs.map d.enc) ≤ d.dep := by
  induction h with
  | nil => exact ⟨by simp only [List.map_nil, xpAll], by simp only [List.map_nil, PyData.depthAll]; exact Nat.zero_le _⟩
  | cons a _ ih =>
    simp only [List.map_cons, xpAll, PyData.depthAll]
    have := (d.xd a).2
    have := ih.2
    exact ⟨⟨_, _, rfl, (d.xd a).1, ih.1⟩, by omega⟩
instance {α : Type} {r : Rep α} [d : XDat r] : XDat (yL r) := ⟨fun xs => .list (xs.map d.enc), d.dep + 1, fun ⟨⟨a, vs, h1, h2, h3⟩, h4⟩ => by
  have := (xd_all h3).2
  simp only [xp, PyData.depth]
  exact ⟨⟨a, vs, h1, h2, by rw [List.length_map]; exact h4, (xd_all h3).1⟩, by omega⟩⟩
/-- data of these things stand as the things -/
class XNar {α : Type} [TNar α] (r : Rep α) [XDat r] : Prop where
  nx : ∀ xs : List α, TNar.nar xs = true ∨ TNar.nar (xs.map (XDat.enc (r := r))) = TNar.nar xs
instance {α : Type} [TNar α] [TAll α] {r : Rep α} [XDat r] : XNar r := ⟨fun xs => .inl (TAll.all xs)⟩
theorem isSDs_strs (xs : List Str) : isSDs (xs.map PyData.str) = !xs.isEmpty := by
  unfold isSDs
  have : (xs.map PyData.str).all isSD = true := List.all_eq_true.mpr fun x hx => by
    obtain ⟨y, _, rfl⟩ := List.mem_map.mp hx
    rfl
  rw [this, Bool.and_true]
  cases xs <;> rfl
theorem isSDs_no {ds : List PyData} {d : PyData} (h : d ∈ ds) (e : isSD d = false) : isSDs ds = false := by
  unfold isSDs
  rw [show ds.all isSD = false from List.all_eq_false.mpr ⟨d, h, by rw [e]; exact Bool.false_ne_true⟩, Bool.and_false]
instance : XNar yS := ⟨fun xs => .inr (by show (!isSDs (xs.map PyData.str)) = xs.isEmpty; rw [isSDs_strs, Bool.not_not])⟩
instance : XNar yX := ⟨fun xs => .inr (by rw [show (XDat.enc (r := yX)) = id from rfl, List.map_id])⟩
theorem XNar.tup {α : Type} [TNar α] {r : Rep α} [XDat r] [k : XNar r] {F : Hp} {a : Addr} {vs : List V} {xs : List α} (h : TupB (TNar.nar xs) F a vs) : TupB (TNar.nar (xs.map (XDat.enc (r := r)))) F a vs := (k.nx xs).elim (fun e => .inl (h.nar e)) fun e => by rw [e]; exact h
instance {α : Type} [TNar α] {r : Rep α} [d : XDat r] [XNar r] : XDat (yT r) := ⟨fun xs => .tuple (xs.map d.enc), d.dep + 1, fun ⟨⟨a, vs, h1, h2, h3⟩, h4⟩ => by
  have := (xd_all h3).2
  simp only [xp, PyData.depth]
  exact ⟨⟨a, vs, h1, XNar.tup h2, by rw [List.length_map]; exact h4, (xd_all h3).1⟩, by omega⟩⟩
instance {α : Type} {r : Rep α} [d : XDat r] : XDat (z1 r) := ⟨fun x => .tuple [d.enc x], d.dep + 1, fun ⟨a, v1, h1, h2, h3⟩ => by
  have := (d.xd h3).2
  simp only [xp, xpAll, PyData.depth, PyData.depthAll]
  exact ⟨⟨a, _, h1, .inl h2, by show 1 ≤ big; decide, _, _, rfl, (d.xd h3).1, rfl⟩, by omega⟩⟩
instance {α β : Type} {r : Rep α} {s : Rep β} [d : XDat r] [e : XDat s] : XDat (z2 r s) := ⟨fun x => .tuple [d.enc x.1, e.enc x.2], max d.dep e.dep + 1, fun ⟨a, u, w, h1, h2, h3, h4⟩ => by
  have := (d.xd h3).2
  have := (e.xd h4).2
  simp only [xp, xpAll, PyData.depth, PyData.depthAll]
  exact ⟨⟨a, _, h1, .inl h2, by show 2 ≤ big; decide, _, _, rfl, (d.xd h3).1, _, _, rfl, (e.xd h4).1, rfl⟩, by omega⟩⟩
instance {α β γ : Type} {r : Rep α} {s : Rep β} {t : Rep γ} [d : XDat r] [e : XDat s] [f : XDat t] : XDat (z3 r s t) := ⟨fun x => .tuple [d.enc x.1, e.enc x.2.1, f.enc x.2.2], max d.dep (max e.dep f.dep) + 1, fun ⟨a, u, w, z, h1, h2, h3, h4, h5⟩ => by
  have := (d.xd h3).2
  have := (e.xd h4).2
  have := (f.xd h5).2
  simp only [xp, xpAll, PyData.depth, PyData.depthAll]
  exact ⟨⟨a, _, h1, .inl h2, by show 3 ≤ big; decide, _, _, rfl, (d.xd h3).1, _, _, rfl, (e.xd h4).1, _, _, rfl, (f.xd h5).1, rfl⟩, by omega⟩⟩
instance {α β γ δ : Type} {r : Rep α} {s : Rep β} {t : Rep γ} {u : Rep δ} [d : XDat r] [e : XDat s] [f : XDat t] [g : XDat u] : XDat (z4 r s t u) := ⟨fun x => .tuple [d.enc x.1, e.enc x.2.1, f.enc x.2.2.1, g.enc x.2.2.2], max (max d.dep e.dep) (max f.dep g.dep) + 1, fun ⟨a, v1, v2, v3, v4, h1, h2, h3, h4, h5, h6⟩ => by
  have := (d.xd h3).2
  have := (e.xd h4).2
  have := (f.xd h5).2
  have := (g.xd h6).2
  simp only [xp, xpAll, PyData.depth, PyData.depthAll]
  exact ⟨⟨a, _, h1, .inl h2, by show 4 ≤ big; decide, _, _, rfl, (d.xd h3).1, _, _, rfl, (e.xd h4).1, _, _, rfl, (f.xd h5).1, _, _, rfl, (g.xd h6).1, rfl⟩, by omega⟩⟩
instance {α β : Type} {r : Rep α} {s : Rep β} [d : XDat r] [e : XDat s] : XDat (zLp r s) := ⟨fun x => .list [d.enc x.1, e.enc x.2], max d.dep e.dep + 1, fun ⟨a, u, w, h1, h2, h3, h4⟩ => by
  have := (d.xd h3).2
  have := (e.xd h4).2
  simp only [xp, xpAll, PyData.depth, PyData.depthAll]
  exact ⟨⟨a, _, h1, h2, by show 2 ≤ big; decide, _, _, rfl, (d.xd h3).1, _, _, rfl, (e.xd h4).1, rfl⟩, by omega⟩⟩
instance {α β γ : Type} {r : Rep α} {s : Rep β} {t : Rep γ} [d : XDat r] [e : XDat s] [f : XDat t] : XDat (zL3 r s t) := ⟨fun x => .list [d.enc x.1, e.enc x.2.1, f.enc x.2.2], max d.dep (max e.dep f.dep) + 1, fun ⟨a, u, w, z, h1, h2, h3, h4, h5⟩ => by
  have := (d.xd h3).2
  have := (e.xd h4).2
  have := (f.xd h5).2
  simp only [xp, xpAll, PyData.depth, PyData.depthAll]
  exact ⟨⟨a, _, h1, h2, by show 3 ≤ big; decide, _, _, rfl, (d.xd h3).1, _, _, rfl, (e.xd h4).1, _, _, rfl, (f.xd h5).1, rfl⟩, by omega⟩⟩
instance {α : Type} {r : Rep α} [d : XDat r] : XDat (yO r) := ⟨fun o => match o with | none => .none | some x => d.enc x, d.dep, fun {F v x} h => by
  cases x with
  | none => simp only [xp, PyData.depth]; exact ⟨h, Nat.zero_le _⟩
  | some y => exact d.xd h⟩
theorem le_XT {x : PyData} {ds : List PyData} (e : x = .tuple ds) : (iz yX x).Le (iz (yT yX) ds) := fun F v h => by
  subst e
  obtain ⟨h, hd⟩ := h
  simp only [xp] at h
  simp only [PyData.depth] at hd
  obtain ⟨a, vs, h1, h2, h3, h4⟩ := h
  exact ⟨⟨a, vs, h1, h2, xpAll_pvs h4 fun d hm => depth_mem (n := 60) (by omega) hm⟩, h3⟩
mutual
theorem xp_dp {Kf : PySem.W.Frag} : ∀ (d : PyData) (v : V), xp F d v → Dp Kf F v d ∧ nb d = true
  | .none, _, h => by simp only [xp] at h; subst h; exact ⟨.non, rfl⟩
  | .int _, _, h => by simp only [xp] at h; subst h; exact ⟨.int _, rfl⟩
  | .str _, _, h => by
    simp only [xp] at h
    obtain ⟨rfl, h2, _⟩ := h
    exact ⟨.str _, h2.ok⟩
  | .bool _, _, h => by simp only [xp] at h
  | .dict _, _, h => by simp only [xp] at h
  | .list ds, _, h => by
    simp only [xp] at h
    obtain ⟨a, vs, rfl, h2, _, h4⟩ := h
    obtain ⟨g1, g2⟩ := xpAll_dp (Kf := Kf) ds vs h4
    exact ⟨.lst (SqL.of h2) g1, g2⟩
  | .tuple ds, _, h => by
    simp only [xp] at h
    obtain ⟨a, vs, rfl, h2, _, h4⟩ := h
    obtain ⟨g1, g2⟩ := xpAll_dp (Kf := Kf) ds vs h4
    exact ⟨.tup (h2.sq (Same.refl _)) g1, g2⟩
theorem xpAll_dp {Kf : PySem.W.Frag} : ∀ (ds : List PyData) (vs : List V), xpAll F ds vs → DpAll Kf F vs ds ∧ nbAll ds = true
  | [], _, h => by simp only [xpAll] at h; subst h; exact ⟨.nil, rfl⟩
  | d :: ds, _, h => by
    simp only [xpAll] at h
    obtain ⟨v, r, rfl, h2, h3⟩ := h
    obtain ⟨g1, g2⟩ := xp_dp (Kf := Kf) d v h2
    obtain ⟨g3, g4⟩ := xpAll_dp (Kf := Kf) ds r h3
    exact ⟨.cons g1 g3, by show (nb d && nbAll ds) = true; rw [g2, g4]; rfl⟩
end
/-- papers: data that is a tuple -/
def pit : PyData → List PyData
  | .tuple ds => ds
  | _ => []
def yP : Rep PyData := ⟨fun F v d => (xp F d v ∧ d.depth ≤ 60) ∧ d = .tuple (pit d), fun e h => ⟨⟨xp_mono e _ _ h.1.1, h.1.2⟩, h.2⟩⟩
class PDat {α : Type} (r : Rep α) [d : XDat r] : Prop where
  t : ∀ x, d.enc x = .tuple (pit (d.enc x))
instance {α : Type} {r : Rep α} [XDat r] : PDat (z1 r) := ⟨fun _ => rfl⟩
instance {α : Type} [TNar α] {r : Rep α} [XDat r] [XNar r] : PDat (yT r) := ⟨fun _ => rfl⟩
instance {α β : Type} {r : Rep α} {s : Rep β} [XDat r] [XDat s] : PDat (z2 r s) := ⟨fun _ => rfl⟩
instance {α β γ : Type} {r : Rep α} {s : Rep β} {t : Rep γ} [XDat r] [XDat s] [XDat t] : PDat (z3 r s t) := ⟨fun _ => rfl⟩
instance {α β γ δ : Type} {r : Rep α} {s : Rep β} {t : Rep γ} {u : Rep δ} [XDat r] [XDat s] [XDat t] [XDat u] : PDat (z4 r s t u) := ⟨fun _ => rfl⟩
theorem le_PT {x : PyData} : (iz yP x).Le (iz (yT yX) (pit x)) := fun F v h => le_XT h.2 F v h.1
instance : XDat yP := ⟨id, 60, fun h => h.1⟩
instance : NotNon yP := ⟨fun F v x h q => by
  obtain ⟨⟨a, vs, h1, _⟩, _⟩ := le_PT F v h
  rw [q] at h1
  cases h1⟩
end
end L2
set_option Elab.async false
set_option linter.all false
set_option maxRecDepth 100000
set_option maxHeartbeats 4000000
namespace L2
open PySem PySem.Spec PyProof.Rows PySem.HErr
section
variable {fr fr' : Fr} {Γ Γ' : Gam} {Θ Θ' : List Cel} {F F' H H' : Hp} {K : Vp → List Cel → Prop} {Qv : VK}
def MkPr (fr : Fr) (Γ : Gam) (Θ : List Cel) (pre : Pre) (E : L2.St → XK) (ps : List Vp) (K : Vp → List Cel → Prop) : Prop := ∃ out err, pre ps out err ∧ (∀ p, out p → K p Θ) ∧ ∀ e, err e → Kr fr Γ Θ (fun cls d σ H => E σ cls d H) e
theorem we_mkP {C : Addr} {pre : Pre} {E : L2.St → XK} {t : TA} (w : Wa fr Γ Θ t fun ps Θ1 => MkPr fr Γ Θ1 pre E ps K) : We fr Γ Θ (tMkD C (spI C pre) E t) K := we_mk w
theorem mkW {α β : Type} {ef : HE → Er} {args : α → List Vp} {r : Rep β} {m : α → DM β} {E : L2.St → XK} {ps : List Vp} {Q : β → Prop} {X : HE → Prop} (x : α) (h : m x Q X) (k : ∀ y, Q y → K (iz r y) Θ) (xx : ∀ z, X z → Kr fr Γ Θ (fun cls d σ H => E σ cls d H) (ef z)) (e : ps = args x := by rfl) : MkPr fr Γ Θ (preW ef args r m) E ps K :=
  ⟨_, _, ⟨x, Q, X, e, h, rfl, rfl⟩, fun p ⟨y, hy, e⟩ => by rw [e]; exact k y hy, fun er ⟨z, hz, e⟩ => by rw [e]; exact xx z hz⟩
theorem mkW0 {α β : Type} {ef : HE → Er} {args : α → List Vp} {r : Rep β} {m : α → DM β} {E : L2.St → XK} {ps : List Vp} {Q : β → Prop} (x : α) (h : m x Q noX) (k : ∀ y, Q y → K (iz r y) Θ) (e : ps = args x := by rfl) : MkPr fr Γ Θ (preW ef args r m) E ps K := mkW x h k (fun z hz => hz.elim) e
theorem mkWE {α β : Type} {ef : HE → Er} {args : α → List Vp} {r : Rep β} {m : α → DM β} {E : XK} {ps : List Vp} {Q : β → Prop} {X : HE → Prop} (hx : RseW fr E ef X) (x : α) (h : m x Q X) (k : ∀ y, Q y → K (iz r y) Θ) (e : ps = args x := by rfl) : MkPr fr Γ Θ (preW ef args r m) (fun _ => E) ps K := mkW x h k (fun z hz => hx z hz Γ Θ) e
end
section
variable {P : Program} {w : World} {K : PySem.W.Frag} {mg : Str → Option Value} {base : Heap} {CX : CXT} {C : Addr} {ps : List Str} {k : Nat} {sp sp' : Sp}
theorem DefI.imp (D : DefI P w K mg base CX k C ps sp) (h : ∀ vs H Q E, sp' vs H Q E → sp vs H Q E) : DefI P w K mg base CX k C ps sp' := by
  obtain ⟨f, fd, hlk, h1, h2, h3⟩ := D.ex
  exact ⟨f, fd, hlk, h1, h2, h3.imp h⟩
end
end L2
set_option Elab.async false
set_option linter.all false
set_option maxRecDepth 100000
set_option maxHeartbeats 4000000
namespace L2
open PySem PySem.Spec PyProof.Rows PySem.HErr
section
variable {X : Cx} {K : PySem.W.Frag} {pos : Pos}
theorem kpg_tup {es : List Expr} {k : Nat} {t : TGs} {n : Nat} (hc : X.calm = true) (h : PGs X es t) (hn : (assignEach es X.env).length = n := by rfl) (hst : (assignEach es X.env).findIdx? (·.1) = none := by rfl) (hK : X.K = K := by rfl) : PG X (.Tuple es k pos) (gTup K n t) := hK ▸ pg_tup hc h hn hst
end
end L2
set_option Elab.async false
set_option linter.all false
set_option maxRecDepth 100000
set_option maxHeartbeats 4000000
namespace L2
open PySem PySem.Spec PyProof.Rows PySem.HErr
section
variable {α β S : Type}
theorem forD_inv {body : α → S → (S → Prop) → (S → Prop) → Prop} {after : S → Prop} {xs : List α} {s : S} (I : List α → S → Prop) (h0 : I [] s)
    (hs : ∀ pre x post s nx, xs = pre ++ x :: post → I pre s → (∀ s', I (pre ++ [x]) s' → nx s') → body x s nx after) (hd : ∀ s, I xs s → after s) : forD xs s body after := by
  have key : ∀ (post pre : List α) (s : S), xs = pre ++ post → I pre s → forD post s body after := by
    intro post
    induction post with
    | nil =>
      intro pre s e h
      rw [List.append_nil] at e
      subst e
      exact hd s h
    | cons x post ih =>
      intro pre s e h
      exact hs pre x post s _ e h fun s' h' => ih (pre ++ [x]) s' (by rw [e]; simp) h'
  exact key xs [] s rfl h0
/-- a loop that looks for the first -/
theorem forD_find {body : α → S → (S → Prop) → (S → Prop) → Prop} {after : S → Prop} {s : S} {p : α → Bool} {E : α → Prop} : ∀ {xs : List α}, (∀ x ∈ xs, ∀ nx, (p x = true → E x) → (p x = false → nx s) → body x s nx after) → (∀ x, xs.find? p = some x → E x) → (xs.find? p = none → after s) → forD xs s body after
  | [], _, _, h => h rfl
  | x :: xs, hb, hf, hn => by
    refine hb x (List.mem_cons_self ..) _ (fun h => hf x ?_) fun h => forD_find (fun y hy => hb y (List.mem_cons_of_mem _ hy)) (fun y hy => hf y ?_) (fun h2 => hn ?_)
    · rw [List.find?_cons, h]
    · rw [List.find?_cons, h]; exact hy
    · rw [List.find?_cons, h]; exact h2
/-- a loop that lets all pass -/
theorem forD_all {body : α → S → (S → Prop) → (S → Prop) → Prop} {after : S → Prop} {s : S} : ∀ {xs : List α}, (∀ x ∈ xs, ∀ nx, nx s → body x s nx after) → after s → forD xs s body after
  | [], _, h => h
  | x :: xs, hb, h => hb x (List.mem_cons_self ..) _ (forD_all (fun y hy => hb y (List.mem_cons_of_mem _ hy)) h)
theorem whileD_inv {step : S → (S → Prop) → (S → Prop) → Prop} {after : S → Prop} {s : S} (I : S → Prop) (μ : S → Nat) (h0 : I s) (hs : ∀ s nx, I s → (∀ s', I s' → μ s' < μ s → nx s') → step s nx after) : whileD s step after := by
  have key : ∀ (n : Nat) (s : S), I s → μ s < n → whileN n s step after := by
    intro n
    induction n with
    | zero => intro s _ h; omega
    | succ n ih => intro s h hm; exact hs s _ h fun s' h' hl => ih s' h' (by omega)
  exact ⟨_, key (μ s + 1) s h0 (Nat.lt_succ_self _)⟩
theorem mapD_ok {f : α → (β → Prop) → Prop} {k : List β → Prop} (g : α → β) : ∀ {xs : List α} {acc : List β}, (∀ x ∈ xs, ∀ k, k (g x) → f x k) → k (acc ++ xs.map g) → mapD xs acc f k
  | [], acc, _, h => by simpa [mapD] using h
  | x :: xs, acc, hf, h => hf x (List.mem_cons_self ..) _ (mapD_ok g (fun y hy => hf y (List.mem_cons_of_mem _ hy)) (by simpa using h))
theorem ifD_t {c : Bool} {A B : Prop} (e : c = true) (h : A) : ifD c A B := ⟨fun _ => h, fun f => by rw [e] at f; cases f⟩
theorem ifD_f {c : Bool} {A B : Prop} (e : c = false) (h : B) : ifD c A B := ⟨(fun f => by rw [e] at f; cases f), fun _ => h⟩
end
end L2
set_option Elab.async false
set_option linter.all false
set_option maxRecDepth 100000
set_option maxHeartbeats 4000000
namespace L2
open PySem PySem.Spec PyProof.Rows PySem.HErr
/-- the box at b: the script's copy at l, then ints -/
def cBg (b l : Addr) (ns is : List Int) : Cel := ⟨b, true, fun F o => o = .lst (.ref l :: is.map V.int) ∧ F l = some (.lst (ns.map V.int)) ∧ ns.length ≤ big, fun e ⟨h1, h2, h3⟩ => ⟨h1, e _ _ h2, h3⟩, fun h e => by subst e; simp at h⟩
def cBag (t : Nat) (b l : Addr) : Cel := ⟨b, true, fun F o => ∃ (ns is : List Int), is.length = t ∧ (∀ i, is[0]? = some i → 0 ≤ i) ∧ (cBg b l ns is).φ F o, fun e ⟨ns, is, h1, h2, h3⟩ => ⟨ns, is, h1, h2, (cBg b l ns is).mono e h3⟩, fun ⟨ns, is, _, _, h⟩ e => (cBg b l ns is).nt h e⟩
abbrev BKind := Addr → Addr → Cel
def preK (mk : BKind) (q : PreB) : PreC := fun ps Θ out err => ∃ b l qs o, ps = zAt b :: qs ∧ Θ = [mk b l] ∧ q qs o ∧ out = (fun p Θ' => o p ∧ Θ' = [mk b l]) ∧ err = fun _ _ => False
def RetKW {β : Type} (mk : BKind) (fr : Fr) (b l : Addr) (Qv : VK) (r : Rep β) (Q : β → Prop) : Prop := ∀ y, Q y → ∀ Θ, mk b l ∈ Θ → Rt fr Θ Qv (iz r y)
section
variable {mk : BKind} {fr fr' : Fr} {Γ Γ' : Gam} {Θ Θ' : List Cel} {F F' H H' : Hp} {K : Vp → List Cel → Prop} {Qv : VK}
theorem RetKW.fine {β : Type} {b l : Addr} {r : Rep β} {Q : β → Prop} (h : RetKW mk fr b l Qv r Q) (le : FrLe fr fr') : RetKW mk fr' b l Qv r Q := fun y hy Θ hc => (h y hy Θ hc).fine le
theorem sps_K {q : PreB} {E : L2.St → XK} {b l : Addr} {qs : List Vp} {o : Vp → Prop} (hc : mk b l ∈ Θ) (hq : q qs o) (k : ∀ p, o p → K p Θ) : Sps fr Γ Θ (spC (preK mk q)) E (zAt b :: qs) K := fun σ F H vs ok env hps Q kq => by
  obtain ⟨Θr, pm⟩ := perm_of_mem hc
  have ok1 := ok.perm pm
  exact ⟨F, _, [mk b l], _, _, ok1.fh, ok1.cellsAt, hps, ⟨b, l, qs, o, rfl, rfl, hq, rfl, rfl⟩, fun p Θ' ⟨ho, hΘ⟩ v F' H' ef h => by
    subst hΘ
    exact kq p Θ (k p ho) v F' H' ef.ff ((ok1.eff ef).perm pm.symm) h, fun e Θ' he => he.elim⟩
theorem sps_KW {α β : Type} {args : α → List Vp} {r : Rep β} {m : α → DM β} {E : L2.St → XK} {ps : List Vp} {Q : β → Prop} {b l : Addr} {j : Nat} (hj : Θ[j]? = some (mk b l)) (x : α) (h : m x Q noX) (k : ∀ y, Q y → K (iz r y) Θ) (e : ps = zAt b :: args x := by rfl) : Sps fr Γ Θ (spC (preK mk (preBW args r m))) E ps K := by
  subst e
  exact sps_K (List.mem_of_getElem? hj) ⟨x, Q, rfl, h, rfl⟩ fun p ⟨y, hy, e⟩ => by rw [e]; exact k y hy
theorem OkF.recell {c c' : Cel} {j : Nat} (k : OkF fr Θ F H) (hj : Θ[j]? = some c) (ha : c'.a = c.a) (ho : c'.own = c.own) (h : ∀ o, c.φ F o → c'.φ F o) : OkF fr (Θ.set j c') F H := by
  obtain ⟨_, ⟨o, h2, h3⟩, _⟩ := k.ce c (List.mem_of_getElem? hj)
  have := k.mut (c' := c') (o := o) hj ha ho (h o h3)
  have e : upd H c.a o = H := by
    funext a
    by_cases q : a = c.a
    · rw [q, upd_same, h2]
    · rw [upd_ne q]
  rw [e] at this
  exact this
theorem kn_bag {t : Nat} {b l : Addr} {j : Nat} {P : L2.St → Hp → Prop} (hj : Θ[j]? = some (cBag t b l)) (k : ∀ (ns is : List Int), is.length = t → (∀ i, is[0]? = some i → 0 ≤ i) → Kn fr Γ (Θ.set j (cBg b l ns is)) P) : Kn fr Γ Θ P := fun σ F H ok env => by
  obtain ⟨_, ⟨o, h2, ns, is, h3, h4, h5⟩, _⟩ := ok.ce _ (List.mem_of_getElem? hj)
  obtain ⟨h6, h7, h8⟩ := h5
  subst h6
  have := ok.mut (c' := cBg b l ns is) (o := .lst (.ref l :: is.map V.int)) hj rfl rfl ⟨rfl, h7, h8⟩
  have e : upd H (cBag t b l).a (.lst (.ref l :: is.map V.int)) = H := by
    funext a
    by_cases q : a = (cBag t b l).a
    · rw [q, upd_same, h2]
    · rw [upd_ne q]
  rw [e] at this
  exact k ns is h3 h4 σ F H this env
theorem rt_bag {t : Nat} {b l : Addr} {j : Nat} {ns is : List Int} {rt : VK} {p : Vp} (hj : Θ[j]? = some (cBg b l ns is)) (h1 : is.length = t) (h2 : ∀ i, is[0]? = some i → 0 ≤ i) (k : Rt fr (Θ.set j (cBag t b l)) rt p) : Rt fr Θ rt p := fun v F H ok hv => k v F H (ok.recell hj rfl rfl fun o ho => ⟨ns, is, h1, h2, ho⟩) hv
theorem ob_ix {Kf : PySem.W.Frag} {b l : Addr} {j m : Nat} {ns is : List Int} {n : Int} {x : Int} (hj : Θ[j]? = some (cBg b l ns is)) (hn : n = (m : Int) + 1) (e : is[m]? = some x) (k : K (iz zI x) Θ) : Ops fr Θ (rIxL Kf) (zAt b) (iz zI n) K := fun F H v w ok hv hw Q q => by
  obtain ⟨_, ⟨o, h2, h3, h4, h5⟩, _⟩ := ok.ce _ (List.mem_of_getElem? hj)
  subst h3
  have hv : v = .ref b := hv
  have hw : w = .int n := hw
  subst hv hw hn
  refine ⟨b, _, _, .int x, rfl, rfl, SqL.of h2, ?_, q.go k ok rfl⟩
  rw [show ((m : Int) + 1) = ((m + 1 : Nat) : Int) by omega]
  refine atI_nat ?_
  rw [List.getElem?_cons_succ, List.getElem?_map, e]
  rfl
theorem ob_ix0 {Kf : PySem.W.Frag} {b l : Addr} {j : Nat} {ns is : List Int} (hj : Θ[j]? = some (cBg b l ns is)) (k : K (iz (yL zI) ns) Θ) : Ops fr Θ (rIxL Kf) (zAt b) (iz zI 0) K := fun F H v w ok hv hw Q q => by
  obtain ⟨_, ⟨o, h2, h3, h4, h5⟩, _⟩ := ok.ce _ (List.mem_of_getElem? hj)
  subst h3
  have hv : v = .ref b := hv
  have hw : w = .int 0 := hw
  subst hv hw
  exact ⟨b, _, _, .ref l, rfl, rfl, SqL.of h2, atI_nat (j := 0) rfl, q.go k ok ⟨⟨l, _, rfl, h4, ints_pvs⟩, h5⟩⟩
theorem kb_set {b l : Addr} {i j m : Nat} {ns is : List Int} {te ti : TE} {D : Ends} (hi : Γ[i]? = some (some (zAt b)))
    (w : We fr Γ Θ te fun p Θ1 => We fr Γ Θ1 ti fun q Θ2 => ∃ x n, p = iz zI x ∧ q = iz zI n ∧ n = (m : Int) + 1 ∧ m < is.length ∧ Θ2[j]? = some (cBg b l ns is) ∧ Kn fr Γ (Θ2.set j (cBg b l ns (is.set m x))) D.nx) : Kn fr Γ Θ (tAsg te (gSub (tVar i) ti rSetL) D) := fun σ F H ok env =>
  w σ F H ok env _ fun p Θ1 k v F1 H1 s1 ok1 hp => by
    obtain ⟨v0, h1, h2⟩ := (env.mono s1).get hi
    have h2 : v0 = .ref b := h2
    subst h2
    refine ⟨_, h1, k σ F1 H1 ok1 (env.mono s1) _ fun q Θ2 ⟨x, n, e1, e2, hn, hm, hj, k2⟩ w2 F2 H2 s2 ok2 hp2 => ?_⟩
    subst e1 e2 hn
    obtain ⟨_, ⟨o, h3, h4, h5, h6⟩, _⟩ := ok2.ce _ (List.mem_of_getElem? hj)
    subst h4
    have hp : v = .int x := hp
    subst hp
    refine ⟨b, _, _, m + 1, rfl, hp2, h3, ?_, k2 σ F2 _ (ok2.mut hj rfl rfl ⟨?_, h5, h6⟩) ((env.mono s1).mono s2)⟩
    · unfold ixN
      simp only [List.length_cons, List.length_map]
      rw [if_pos (by omega), if_pos (by omega)]
      congr 1
    · show HO.lst _ = HO.lst _
      rw [List.set_cons_succ, List.map_set]
end
section
variable {mk : BKind} {P : Program} {w : World} {K : PySem.W.Frag} {mg : Str → Option Value} {base : Heap} {x m qual : Str} {C : Addr} {st : Stmt} {N ps : List Str} {k : Nat} {α β : Type} {ef : HE → Er} {args : α → List Vp} {r : Rep β} {md : α → DM β}
theorem Src.okKW (hmk : ∀ b l, (mk b l).own = true) (F : Src K mg x st ps) (S : FnScope N ps (defScope st)) (len : ∀ x, (args x).length + 1 = ps.length)
    (hbody : ∀ (f : Addr) (cdv : Value) (A : Around) (outer : List Env) (s : Shared) (H : Hp) (E : XK) (b l : Addr) (a : α) (Q : β → Prop), Room k (A.deeper (envOfC x (defScope st) s.heap.objs.size f cdv)) → md a Q noX →
      ∃ t, PSs (cxOf CX0 P w K mg base N x (defScope st) f cdv A outer s H E).nox (defBody st) t ∧ ∀ fr Qv, RetKW mk fr b l Qv r Q → Kn fr (envOf N (zAt b :: args a)) [mk b l] (t { nx := fun _ H' => Qv .non H', rt := Qv })) : Def P w K mg base CX0 (k + 1) x ps (spC (preK mk (preBW args r md))) :=
  F.okC S (fun qs Θ out err ⟨b, l, qs', o, h1, h2, ⟨a, Q, e, _⟩, _⟩ => ⟨by rw [h1, e]; exact len a, fun c hc => by rw [h2] at hc; rw [List.mem_singleton.mp hc]; exact hmk b l⟩) fun f cdv A outer s H E qs Θ out err hr ⟨b, l, qs', o, e1, e2, ⟨a, Q, e3, h, e4⟩, e5, e6⟩ => by
    subst e1 e2 e3 e4 e5 e6
    obtain ⟨t, ht, hk⟩ := hbody f cdv A outer s H E b l a Q hr h
    refine ⟨t, ht, fun fr Qv hret => hk fr Qv fun y hy Θ hc => ?_⟩
    obtain ⟨Θr, pm⟩ := perm_of_mem hc
    refine hret _ [mk b l] ⟨⟨y, hy, rfl⟩, rfl⟩ rfl Θ Θr pm
end
end L2
set_option Elab.async false
set_option linter.all false
set_option maxRecDepth 100000
set_option maxHeartbeats 4000000
namespace L2
open PySem PySem.Spec PyProof.Rows PySem.HErr
def zScr (Kf : PySem.W.Frag) : Rep (List Int) := ⟨fun F v ns => ∃ a, v = .ref a ∧ SqL Kf F a (ns.map V.int) ∧ ns.length ≤ 63, fun e ⟨a, h1, h2, h3⟩ => ⟨a, h1, e.seq h2, h3⟩⟩
def preBag (Kf : PySem.W.Frag) (t : Nat) : PreN := fun ps out err => ∃ ns, ps = [iz (zScr Kf) ns] ∧ out = (fun p Θn => ∃ b l, p = zAt b ∧ Θn = [cBag t b l]) ∧ err = noErr
section
variable {fr fr' : Fr} {Γ Γ' : Gam} {Θ Θ' : List Cel} {F F' H H' : Hp} {K : Vp → List Cel → Prop} {Qv : VK}
theorem wi_scr {Kf : PySem.W.Frag} {tl : TE} {K : List Vp → List Cel → Prop} (w : We fr Γ Θ tl fun p Θ1 => ∃ ns : List Int, p = iz (zScr Kf) ns ∧ (ns.length ≤ big → K (ns.map (iz zI)) Θ1)) : Wi fr Γ Θ (iList Kf tl) K := fun σ F H ok env R q =>
  w σ F H ok env _ fun p Θ1 ⟨ns, e, k⟩ v F1 H1 s1 ok1 hp => by
    subst e
    obtain ⟨a, rfl, h2, h3⟩ := hp
    have up : ∀ {F2 H2 : Hp}, Same F1 F2 → Same F2 H2 → SqL Kf H2 a (ns.map V.int) := fun s2 fh => (s2.trans fh).seq h2
    refine ⟨a, rfl, ⟨_, up (Same.refl _) ok1.fh⟩, q _ Θ1 (k (Nat.le_trans h3 (by decide))) _ F1 H1 s1 ok1 fun F2 H2 s2 fh => ⟨fun i p hi => ?_, ?_⟩⟩
    · obtain ⟨x, hx, rfl⟩ := get_izs hi
      have hu : (ns.map V.int)[i]? = some (.int x) := by rw [List.getElem?_map, hx]; rfl
      refine ⟨⟨_, _, up s2 fh, hu⟩, fun y H3 ⟨e, hy⟩ => ?_⟩
      subst e
      have hy := hy _ (up s2 fh)
      rw [hu] at hy
      cases hy
      exact ⟨F2, Same.refl _, Same.refl _, fh, Newer.refl _ _, rfl⟩
    · rw [List.length_map]
      refine ⟨_, up s2 fh, ?_⟩
      rw [List.length_map]
      exact Nat.le_refl _
/-- the box is made -/
theorem we_bag {t : TA} {m : Nat} (w : Wa fr Γ Θ t fun ps Θ1 => ∃ (ns is : List Int), ps = iz (yL zI) ns :: is.map (iz zI) ∧ is.length = m ∧ m ≤ 10 ∧ (∀ i, is[0]? = some i → 0 ≤ i) ∧ ∀ b l, K (zAt b) (cBag m b l :: Θ1)) : We fr Γ Θ (tLst t) K := fun σ F H ok env Q q =>
  w σ F H ok env _ fun ps Θ1 ⟨ns, is, e, h1, h0, h2, k⟩ vs F1 H1 s1 ok1 hps => by
    subst e
    cases hps with
    | cons hl hi =>
      obtain ⟨⟨l, us, rfl, g2, g3⟩, g4⟩ := hl
      have e1 := pvs_I g3
      subst e1
      have e2 := pvs_I (pvs_map hi)
      subst e2
      refine ⟨?_, fun p np => q _ _ (k p l) _ F1 _ s1 (ok1.mkOwn (c := cBag m p l) np rfl ⟨ns, is, h1, h2, rfl, g2, g4⟩) rfl⟩
      rw [List.length_cons, List.length_map]
      exact Nat.le_of_lt (small1000 (by omega))
end
end L2
set_option Elab.async false
set_option linter.all false
set_option maxRecDepth 100000
set_option maxHeartbeats 4000000
namespace L2
open PySem PySem.Spec PyProof.Rows PySem.HErr
section
variable {fr fr' : Fr} {Γ Γ' : Gam} {Θ Θ' : List Cel} {F F' H H' : Hp} {K : Vp → List Cel → Prop} {Qv : VK}
class QDat {α : Type} (r : Rep α) [DecidableEq α] where
  enc : α → PyData
  dep : Nat
  dp : ∀ {Kf : PySem.W.Frag} {F : Hp} {v : V} {x : α}, r.p F v x → Dp Kf F v (enc x)
  cl : ∀ {F : Hp} {v : V} {x : α}, r.p F v x → (enc x).canLay0 = true
  dl : ∀ x : α, (enc x).depth ≤ dep
  eq : ∀ x y : α, PyData.eqv (enc x) (enc y) = decide (x = y)
instance : QDat zI := ⟨PyData.int, 0, fun h => Dat.dp (r := zI) h, fun _ => by simp only [PyData.canLay0], fun x => Dat.dl (r := zI) x, fun x y => by simp only [PyData.eqv]; exact Bool.eq_iff_iff.mpr (by simp)⟩
instance : QDat zB := ⟨PyData.bool, 0, fun h => by cases (show _ = V.bl _ from h); exact .bl _, fun _ => by simp only [PyData.canLay0], fun x => by simp [PyData.depth], fun x y => by cases x <;> cases y <;> simp [PyData.eqv]⟩
instance : QDat yS := ⟨PyData.str, 0, fun h => Dat.dp (r := zS) h.1, fun h => by simp only [PyData.canLay0]; exact h.1.2.ok, fun x => Dat.dl (r := zS) x, fun x y => by simp only [PyData.eqv]; exact Bool.eq_iff_iff.mpr (by simp)⟩
theorem q_all {α : Type} [DecidableEq α] {r : Rep α} [d : QDat r] {Kf : PySem.W.Frag} {vs : List V} {xs : List α} (h : PVs r F vs xs) : DpAll Kf F vs (xs.map d.enc) ∧ PyData.canLayAll0 (xs.map d.enc) = true := by
  induction h with
  | nil => exact ⟨.nil, by simp only [List.map_nil, PyData.canLayAll0]⟩
  | cons a _ ih => exact ⟨.cons (d.dp a) ih.1, by simp only [List.map_cons, PyData.canLayAll0, d.cl a, ih.2, Bool.and_self]⟩
theorem q_dep {α : Type} [DecidableEq α] {r : Rep α} [d : QDat r] (xs : List α) : PyData.depthAll (xs.map d.enc) ≤ d.dep := depthAll_le fun y hy => by
  obtain ⟨x, _, rfl⟩ := List.mem_map.mp hy
  exact d.dl x
theorem q_eqs {α : Type} [DecidableEq α] {r : Rep α} [d : QDat r] : ∀ xs ys : List α, PyData.eqvAll (xs.map d.enc) (ys.map d.enc) = decide (xs = ys)
  | [], [] => by simp [PyData.eqvAll]
  | [], _ :: _ => by simp [PyData.eqvAll]
  | _ :: _, [] => by simp [PyData.eqvAll]
  | x :: xs, y :: ys => by simp [PyData.eqvAll, d.eq, q_eqs xs ys]
instance {α : Type} [DecidableEq α] {r : Rep α} [d : QDat r] : QDat (yL r) := ⟨fun xs => .list (xs.map d.enc), d.dep + 1, fun ⟨⟨a, vs, h1, h2, h3⟩, _⟩ => by subst h1; exact .lst (SqL.of h2) (q_all h3).1, fun ⟨⟨a, vs, h1, h2, h3⟩, _⟩ => by simp only [PyData.canLay0]; exact (q_all (Kf := []) h3).2, fun xs => by
  have := q_dep (r := r) xs
  simp only [PyData.depth]
  omega, fun x y => by simp only [PyData.eqv]; exact q_eqs x y⟩
instance {α : Type} [TNar α] [DecidableEq α] {r : Rep α} [d : QDat r] : QDat (yT r) := ⟨fun xs => .tuple (xs.map d.enc), d.dep + 1, fun ⟨⟨a, vs, h1, h2, h3⟩, _⟩ => by subst h1; exact .tup (h2.sq (Same.refl _)) (q_all h3).1, fun ⟨⟨a, vs, h1, h2, h3⟩, _⟩ => by simp only [PyData.canLay0]; exact (q_all (Kf := []) h3).2, fun xs => by
  have := q_dep (r := r) xs
  simp only [PyData.depth]
  omega, fun x y => by simp only [PyData.eqv]; exact q_eqs x y⟩
instance {α β : Type} [DecidableEq α] [DecidableEq β] {r : Rep α} {s : Rep β} [d : QDat r] [e : QDat s] : QDat (z2 r s) := ⟨fun x => .tuple [d.enc x.1, e.enc x.2], max d.dep e.dep + 1, fun ⟨a, u, w, h1, h2, h3, h4⟩ => by subst h1; exact .tup (SqT.of h2) (.cons (d.dp h3) (.cons (e.dp h4) .nil)),
  fun ⟨a, u, w, h1, h2, h3, h4⟩ => by simp only [PyData.canLay0, PyData.canLayAll0, d.cl h3, e.cl h4, Bool.and_self], fun x => by
    have h1 := d.dl x.1
    have h2 := e.dl x.2
    simp only [PyData.depth, PyData.depthAll]
    omega, fun x y => by
    simp only [PyData.eqv, PyData.eqvAll, d.eq, e.eq, Bool.and_true]
    exact Bool.eq_iff_iff.mpr (by simp [Prod.ext_iff])⟩
instance {α β γ : Type} [DecidableEq α] [DecidableEq β] [DecidableEq γ] {r : Rep α} {s : Rep β} {t : Rep γ} [d : QDat r] [e : QDat s] [f : QDat t] : QDat (z3 r s t) := ⟨fun x => .tuple [d.enc x.1, e.enc x.2.1, f.enc x.2.2], max d.dep (max e.dep f.dep) + 1, fun ⟨a, u, w, z, h1, h2, h3, h4, h5⟩ => by subst h1; exact .tup (SqT.of h2) (.cons (d.dp h3) (.cons (e.dp h4) (.cons (f.dp h5) .nil))),
  fun ⟨a, u, w, z, h1, h2, h3, h4, h5⟩ => by simp only [PyData.canLay0, PyData.canLayAll0, d.cl h3, e.cl h4, f.cl h5, Bool.and_self], fun x => by
    have h1 := d.dl x.1
    have h2 := e.dl x.2.1
    have h3 := f.dl x.2.2
    simp only [PyData.depth, PyData.depthAll]
    omega, fun x y => by
    simp only [PyData.eqv, PyData.eqvAll, d.eq, e.eq, f.eq, Bool.and_true]
    exact Bool.eq_iff_iff.mpr (by simp [Prod.ext_iff])⟩
instance {α β γ δ : Type} [DecidableEq α] [DecidableEq β] [DecidableEq γ] [DecidableEq δ] {r : Rep α} {s : Rep β} {t : Rep γ} {u : Rep δ} [d : QDat r] [e : QDat s] [f : QDat t] [g : QDat u] : QDat (z4 r s t u) := ⟨fun x => .tuple [d.enc x.1, e.enc x.2.1, f.enc x.2.2.1, g.enc x.2.2.2], max (max d.dep e.dep) (max f.dep g.dep) + 1, fun ⟨a, v1, v2, v3, v4, h1, h2, h3, h4, h5, h6⟩ => by subst h1; exact .tup (SqT.of h2) (.cons (d.dp h3) (.cons (e.dp h4) (.cons (f.dp h5) (.cons (g.dp h6) .nil)))),
  fun ⟨a, v1, v2, v3, v4, h1, h2, h3, h4, h5, h6⟩ => by simp only [PyData.canLay0, PyData.canLayAll0, d.cl h3, e.cl h4, f.cl h5, g.cl h6, Bool.and_self], fun x => by
    have h1 := d.dl x.1
    have h2 := e.dl x.2.1
    have h3 := f.dl x.2.2.1
    have h4 := g.dl x.2.2.2
    simp only [PyData.depth, PyData.depthAll]
    omega, fun x y => by
    simp only [PyData.eqv, PyData.eqvAll, d.eq, e.eq, f.eq, g.eq, Bool.and_true]
    exact Bool.eq_iff_iff.mpr (by simp [Prod.ext_iff])⟩
instance {α β γ δ ε : Type} [DecidableEq α] [DecidableEq β] [DecidableEq γ] [DecidableEq δ] [DecidableEq ε] {r : Rep α} {s : Rep β} {t : Rep γ} {u : Rep δ} {w : Rep ε} [d : QDat r] [e : QDat s] [f : QDat t] [g : QDat u] [i : QDat w] : QDat (z5 r s t u w) := ⟨fun x => .tuple [d.enc x.1, e.enc x.2.1, f.enc x.2.2.1, g.enc x.2.2.2.1, i.enc x.2.2.2.2], max (max d.dep e.dep) (max f.dep (max g.dep i.dep)) + 1, fun ⟨a, v1, v2, v3, v4, v5, h1, h2, h3, h4, h5, h6, h7⟩ => by subst h1; exact .tup (SqT.of h2) (.cons (d.dp h3) (.cons (e.dp h4) (.cons (f.dp h5) (.cons (g.dp h6) (.cons (i.dp h7) .nil))))),
  fun ⟨a, v1, v2, v3, v4, v5, h1, h2, h3, h4, h5, h6, h7⟩ => by simp only [PyData.canLay0, PyData.canLayAll0, d.cl h3, e.cl h4, f.cl h5, g.cl h6, i.cl h7, Bool.and_self], fun x => by
    have h1 := d.dl x.1
    have h2 := e.dl x.2.1
    have h3 := f.dl x.2.2.1
    have h4 := g.dl x.2.2.2.1
    have h5 := i.dl x.2.2.2.2
    simp only [PyData.depth, PyData.depthAll]
    omega, fun x y => by
    simp only [PyData.eqv, PyData.eqvAll, d.eq, e.eq, f.eq, g.eq, i.eq, Bool.and_true]
    exact Bool.eq_iff_iff.mpr (by simp [Prod.ext_iff])⟩
instance {α : Type} [DecidableEq α] {r : Rep α} [d : QDat r] : QDat (z1 r) := ⟨fun x => .tuple [d.enc x], d.dep + 1, fun ⟨a, v1, h1, h2, h3⟩ => by subst h1; exact .tup (SqT.of h2) (.cons (d.dp h3) .nil),
  fun ⟨a, v1, h1, h2, h3⟩ => by simp only [PyData.canLay0, PyData.canLayAll0, d.cl h3, Bool.and_self], fun x => by
    have h1 := d.dl x
    simp only [PyData.depth, PyData.depthAll]
    omega, fun x y => by simp only [PyData.eqv, PyData.eqvAll, d.eq, Bool.and_true]⟩
instance {α β : Type} [DecidableEq α] [DecidableEq β] {r : Rep α} {s : Rep β} [d : QDat r] [e : QDat s] : QDat (zLp r s) := ⟨fun x => .list [d.enc x.1, e.enc x.2], max d.dep e.dep + 1, fun ⟨a, u, w, h1, h2, h3, h4⟩ => by subst h1; exact .lst (SqL.of h2) (.cons (d.dp h3) (.cons (e.dp h4) .nil)),
  fun ⟨a, u, w, h1, h2, h3, h4⟩ => by simp only [PyData.canLay0, PyData.canLayAll0, d.cl h3, e.cl h4, Bool.and_self], fun x => by
    have h1 := d.dl x.1
    have h2 := e.dl x.2
    simp only [PyData.depth, PyData.depthAll]
    omega, fun x y => by
    simp only [PyData.eqv, PyData.eqvAll, d.eq, e.eq, Bool.and_true]
    exact Bool.eq_iff_iff.mpr (by simp [Prod.ext_iff])⟩
instance {α β γ : Type} [DecidableEq α] [DecidableEq β] [DecidableEq γ] {r : Rep α} {s : Rep β} {t : Rep γ} [d : QDat r] [e : QDat s] [f : QDat t] : QDat (zL3 r s t) := ⟨fun x => .list [d.enc x.1, e.enc x.2.1, f.enc x.2.2], max d.dep (max e.dep f.dep) + 1, fun ⟨a, u, w, z, h1, h2, h3, h4, h5⟩ => by subst h1; exact .lst (SqL.of h2) (.cons (d.dp h3) (.cons (e.dp h4) (.cons (f.dp h5) .nil))),
  fun ⟨a, u, w, z, h1, h2, h3, h4, h5⟩ => by simp only [PyData.canLay0, PyData.canLayAll0, d.cl h3, e.cl h4, f.cl h5, Bool.and_self], fun x => by
    have h1 := d.dl x.1
    have h2 := e.dl x.2.1
    have h3 := f.dl x.2.2
    simp only [PyData.depth, PyData.depthAll]
    omega, fun x y => by
    simp only [PyData.eqv, PyData.eqvAll, d.eq, e.eq, f.eq, Bool.and_true]
    exact Bool.eq_iff_iff.mpr (by simp [Prod.ext_iff])⟩
def yU {α β : Type} (r : Rep α) (s : Rep β) : Rep (α ⊕ β) := ⟨fun F v x => match x with | .inl a => r.p F v a | .inr b => s.p F v b, fun {F F' v x} e h => by
  cases x with
  | inl a => exact r.mono e h
  | inr b => exact s.mono e h⟩
/-- unlike kinds are never equal -/
class QApart {α β : Type} [DecidableEq α] [DecidableEq β] (r : Rep α) (s : Rep β) [d : QDat r] [e : QDat s] : Prop where
  ne : ∀ x y, PyData.eqv (d.enc x) (e.enc y) = false
  ne' : ∀ x y, PyData.eqv (e.enc y) (d.enc x) = false
instance {α β γ : Type} [DecidableEq α] [DecidableEq β] [DecidableEq γ] {r : Rep α} {s : Rep β} {t : Rep γ} [d : QDat r] [e : QDat s] [f : QDat t] : QApart yS (zL3 r s t) := ⟨fun x y => by simp [QDat.enc, PyData.eqv], fun x y => by simp [QDat.enc, PyData.eqv]⟩
instance {α β : Type} [DecidableEq α] [DecidableEq β] {r : Rep α} {s : Rep β} [d : QDat r] [e : QDat s] : QApart yS (zLp r s) := ⟨fun x y => by simp [QDat.enc, PyData.eqv], fun x y => by simp [QDat.enc, PyData.eqv]⟩
instance {α : Type} [DecidableEq α] {r : Rep α} [d : QDat r] : QApart yS (yL r) := ⟨fun x y => by simp [QDat.enc, PyData.eqv], fun x y => by simp [QDat.enc, PyData.eqv]⟩
instance {α : Type} [TNar α] [DecidableEq α] {r : Rep α} [d : QDat r] : QApart yS (yT r) := ⟨fun x y => by simp [QDat.enc, PyData.eqv], fun x y => by simp [QDat.enc, PyData.eqv]⟩
def numS (n : Int) : Str := Str.ofString (toString n)
theorem num_ascN (n : Nat) : Asc (numS (n : Int)) := fun c hc => by
  have e : (numS (n : Int)).cps.toList = TL.numL n := TL.tl_num n
  rw [e] at hc
  have := TL.numL_digits n c hc
  omega
theorem num_neg (n : Nat) : (numS (Int.negSucc n)).cps.toList = 45 :: TL.numL (n + 1) := by
  unfold numS
  rw [PyProof.Rows.signs_ofString]
  show ((("-" : String) ++ Nat.repr (n + 1)).toList).map Char.toNat = _
  rw [String.toList_append, List.map_append, Nat.toList_repr]
  rfl
theorem num_asc (n : Int) : Asc (numS n) := by
  cases n with
  | ofNat n => exact num_ascN n
  | negSucc n =>
    intro c hc
    rw [num_neg] at hc
    rcases List.mem_cons.mp hc with rfl | hc
    · decide
    · have := TL.numL_digits (n + 1) c hc
      omega
def CStr (n : Int) : Prop := n.natAbs < 10 ^ 200
theorem CStr.log {n : Int} (h : CStr n) : n.natAbs.log2 < 1920 := by
  unfold CStr at h
  by_cases e : n.natAbs = 0
  · rw [e]; decide
  · rw [Nat.log2_lt e]
    exact Nat.lt_trans h (by decide)
theorem num_len {n : Int} (h : CStr n) : (numS n).length ≤ 1921 := by
  have e := PySem.int_text_length_le (k := 1920) (by decide) h.log
  show (Str.ofString (toString n)).length ≤ _
  rw [PySem.ofString_length]
  exact e
theorem le_num {n : Int} (h : CStr n) : ∀ F, (iz yS (numS n)).p F (.str (Str.ofString (toString n))) := fun F => ⟨⟨rfl, num_asc n⟩, Nat.le_trans (num_len h) (by decide)⟩
theorem cy_str {n : Int} (h : CStr n) (k : K (iz yS (numS n)) Θ) : Cbs fr Θ (fun xs H Q => ∃ i : Int, xs = [.int i] ∧ i.natAbs.log2 < 1920 ∧ Q (.str (toString i)) H) [iz zI n] K := fun F H vs ok hps Q q => by
  cases hps with
  | cons h1 hp => cases hp with
    | nil =>
      have h1 : _ = V.int n := h1
      subst h1
      exact ⟨n, rfl, h.log, q.go k ok (le_num h F)⟩
def Wj (fr : Fr) (Γ : Gam) (Θ : List Cel) (ts : List TE) (acc : Str) (K : Str → List Cel → Prop) : Prop := Asc acc → ∀ σ F H, OkF fr Θ F H → EnvF Γ σ F → ∀ Q : Str → Hp → Prop, (∀ z Θ', K z Θ' → Asc z → ∀ F' H', Same F F' → OkF fr Θ' F' H' → Q z H') → tJs ts acc σ H Q
theorem we_fs {ts : List TE} (w : Wj fr Γ Θ ts Str.empty fun z Θ1 => z.length ≤ big ∧ K (iz yS z) Θ1) : We fr Γ Θ (fun σ H Q => tJs ts Str.empty σ H fun out H1 => Q (.str out) H1) K := fun σ F H ok env Q q =>
  w (fun c hc => by cases hc) σ F H ok env _ fun z Θ' ⟨hl, k⟩ ha F' H' s' ok' => q _ Θ' k _ F' H' s' ok' ⟨⟨rfl, ha⟩, hl⟩
theorem wj_nil {acc : Str} {K : Str → List Cel → Prop} (k : K acc Θ) : Wj fr Γ Θ [] acc K := fun ha σ F H ok env Q q => q acc Θ k ha F H (Same.refl F) ok
theorem wj_cons {t : TE} {ts : List TE} {acc : Str} {K : Str → List Cel → Prop} (w : We fr Γ Θ t fun p Θ1 => ∃ z, p = iz yS z ∧ acc.length + z.length ≤ big ∧ Wj fr Γ Θ1 ts (acc ++ z) K) : Wj fr Γ Θ (t :: ts) acc K := fun ha σ F H ok env Q q =>
  w σ F H ok env _ fun p Θ1 ⟨z, e, hl, k⟩ v F1 H1 s1 ok1 hp => by
    subst e
    obtain ⟨⟨e1, hz⟩, _⟩ := hp
    exact ⟨z, e1, by rw [show (acc ++ z).length = acc.length + z.length from by show (acc.cps ++ z.cps).size = _; rw [Array.size_append]; rfl]; exact big_line hl, k (ha.app hz) σ F1 H1 ok1 (env.mono s1) Q fun z' Θ' kk hz' F' H' s' ok' => q z' Θ' kk hz' F' H' (s1.trans s') ok'⟩
theorem we_fmtI {t : TE} (w : We fr Γ Θ t fun p Θ1 => ∃ n, p = iz zI n ∧ CStr n ∧ K (iz yS (numS n)) Θ1) : We fr Γ Θ (tFmt t) K := fun σ F H ok env Q q =>
  w σ F H ok env _ fun p Θ1 ⟨n, e, hn, k⟩ v F1 H1 s1 ok1 hp => by
    subst e
    exact .inr ⟨n, hp, hn.log, q _ Θ1 k _ F1 H1 s1 ok1 (le_num hn F1)⟩
theorem get_zip {α β : Type} {xs : List α} {ys : List β} {i : Nat} {z : α × β} (h : (xs.zip ys)[i]? = some z) : xs[i]? = some z.1 ∧ ys[i]? = some z.2 := by
  rw [List.getElem?_zip_eq_some] at h
  exact h
end
end L2
set_option Elab.async false
set_option linter.all false
set_option maxRecDepth 100000
set_option maxHeartbeats 4000000
namespace L2
open PySem PySem.Spec PyProof.Rows PySem.HErr
section
variable {fr fr' : Fr} {Γ Γ' : Gam} {Θ Θ' : List Cel} {F F' H H' : Hp} {K : Vp → List Cel → Prop} {Qv : VK}
def tryD (hd : HE → Prop) (f : (HE → Prop) → Prop) : Prop := f hd
theorem tryD.go {hd : HE → Prop} {f : (HE → Prop) → Prop} (h : tryD hd f) : f hd := h
theorem joinD.go {S : Type} {f : (S → Prop) → Prop} {k : S → Prop} (h : joinD f k) : f k := h
theorem sps_WT {α β : Type} {ef : HE → Er} {args : α → List Vp} {r : Rep β} {m : α → DM β} {E : L2.St → XK} {ps : List Vp} {Q : β → Prop} {X : HE → Prop} (x : α) (h : m x Q X) (xx : ∀ z, X z → Kr fr Γ Θ (fun cls d σ H => E σ cls d H) (ef z)) (k : ∀ y, Q y → K (iz r y) Θ) (e : ps = args x := by rfl) : Sps fr Γ Θ (spA (preW ef args r m)) E ps K := sps_W x h k xx e
theorem cb_isD {Kf : PySem.W.Frag} {C D a d : Addr} {fs : List (Str × Vp)} {b : Bool} (T : IsC Kf C) (hk : PySem.W.kitOne Kf (.ref C) (.ref D) = some b) (k : K (iz zB b) Θ) : Cbs fr Θ (rIsD Kf (.ref C) (some d) a) [zExc a d fs, zAt D] K := fun F H vs ok hps Q q => by
  cases hps with
  | cons h1 hp => cases hp with
    | cons h2 hp => cases hp with
      | nil =>
        obtain ⟨rfl, us, h3, h4⟩ := h1
        have h2 : _ = V.ref D := h2
        subst h2
        exact ⟨C, d, us, _, .ref D, b, rfl, T, rfl, ok.fh _ _ h3, rfl, fun u hu => by cases hu; rfl, hk, q.go k ok rfl⟩
theorem we_cA {D : Addr} (k : K (zAt D) Θ) : We fr Γ Θ (tC (.ref D)) K := we_c (p := zAt D) (fun _ => rfl) k
/-- a if c else b, each of which needs more -/
theorem we_ifX {α : Type} {r : Rep α} {c : TT} {ta tb : TE} {f : (α → Prop) → Prop} {k : α → Prop} (h : joinD f k) (w : f k → Wt fr Γ Θ c fun b Θ1 => Θ1 = Θ ∧ (b = true → We fr Γ Θ ta fun p Θ2 => Θ2 = Θ ∧ ∃ x, p = iz r x ∧ k x) ∧ (b = false → We fr Γ Θ tb fun p Θ2 => Θ2 = Θ ∧ ∃ x, p = iz r x ∧ k x)) (kk : ∀ x, k x → K (iz r x) Θ) : We fr Γ Θ (tIf c ta tb) K := we_ifD (w h) kk
instance {α β : Type} [DecidableEq α] [DecidableEq β] {r : Rep α} {s : Rep β} [d : QDat r] [e : QDat s] [ap : QApart r s] : QDat (yU r s) := ⟨fun x => match x with | .inl a => d.enc a | .inr b => e.enc b, max d.dep e.dep, fun {Kf F v x} h => by
  cases x with
  | inl a => exact d.dp h
  | inr b => exact e.dp h, fun {F v x} h => by
  cases x with
  | inl a => exact d.cl h
  | inr b => exact e.cl h, fun x => by
  cases x with
  | inl a => exact Nat.le_trans (d.dl a) (Nat.le_max_left _ _)
  | inr b => exact Nat.le_trans (e.dl b) (Nat.le_max_right _ _), fun x y => by
  cases x with
  | inl a => cases y with
    | inl b => exact (d.eq a b).trans (by simp)
    | inr b => exact (ap.ne a b).trans (by simp)
  | inr a => cases y with
    | inl b => exact (ap.ne' b a).trans (by simp)
    | inr b => exact (e.eq a b).trans (by simp)⟩
instance {α β γ : Type} [DecidableEq α] [DecidableEq β] [DecidableEq γ] {r : Rep α} {s : Rep β} {t : Rep γ} [d : QDat r] [e : QDat s] [f : QDat t] [a1 : QApart s t] [a2 : QApart r s] [a3 : QApart r t] : QApart r (yU s t) := ⟨fun x y => by
  cases y with
  | inl a => exact a2.ne x a
  | inr a => exact a3.ne x a, fun x y => by
  cases y with
  | inl a => exact a2.ne' x a
  | inr a => exact a3.ne' x a⟩
theorem Kr.le {W : WX} {e : Er} (h : Kr fr Γ' Θ W e) (g : GLe Γ Γ') : Kr fr Γ Θ W e := fun σ F H ok env d us hd hf => h σ F H ok (env.le g) d us hd hf
end
end L2
set_option Elab.async false
set_option linter.all false
set_option maxRecDepth 100000
set_option maxHeartbeats 4000000
namespace L2
open PySem PySem.Spec PyProof.Rows PySem.HErr
section
variable {fr fr' : Fr} {Γ Γ' : Gam} {Θ Θ' : List Cel} {F F' H H' : Hp} {K : Vp → List Cel → Prop} {Qv : VK}
structure IsO (K : PySem.W.Frag) (C : Addr) : Prop where
  cl : Cls K C
  ha : PySem.W.findIn K (.ref C) "__class__" = some (some (.builtin "object.__class__"))
  hn : PySem.W.specialIn K (.builtin "object.__class__") "__get__" = some (some (.builtin "getset_descriptor.__get__"))
  htk : PySem.W.takesIn K (.builtin "object.__class__") = some true
  hm : PySem.W.mroIn K C (.type "object") = some true
theorem cb_isO {Kf : PySem.W.Frag} {C D : Addr} {p : Vp} {b : Bool} (T : IsO Kf C) (ic : InsC fr Θ p C) (hk : PySem.W.kitOne Kf (.ref C) (.ref D) = some b) (k : K (iz zB b) Θ) : Cbs fr Θ (rIsi Kf) [p, zAt D] K := fun F H vs ok hps Q q => by
  cases hps with
  | cons h1 hp => cases hp with
    | cons h2 hp => cases hp with
      | nil =>
        have h2 : _ = V.ref D := h2
        subst h2
        obtain ⟨a, dx, fs, rfl, h3⟩ := ic F H _ ok h1
        exact ⟨.ref a, .ref D, .ref C, .ref D, b, rfl, .own D, .base (.ins h3 T.cl T.ha T.hn T.htk T.hm), hk, q.go k ok rfl⟩
theorem we_lcWN {α β : Type} {r : Rep α} {s : Rep β} {wi : TI} {g : TG} {tt : TT} {te : TE} {vs : List Nat}
    (w : Wi fr Γ Θ wi fun its Θ1 => ∃ (xs : List α) (f : α → (Option β → Prop) → Prop) (k : List β → Prop) (Γ2 : α → Gam), its = xs.map (iz r) ∧ Θ1 = Θ ∧ xs.length ≤ big ∧ (∀ x, TgR g vs (iz r x) (wipeG Γ vs) (Γ2 x)) ∧ compD xs [] f k ∧
      (∀ x c kx, f x kx → Wt fr (Γ2 x) (c :: Θ) tt fun b Θ1 => (b = true → We fr (Γ2 x) Θ1 te fun q Θ' => Θ' = c :: Θ ∧ ∃ y, q = iz s y ∧ kx (some y)) ∧ (b = false → Θ1 = c :: Θ ∧ kx none)) ∧
      (∀ ys, k ys → ys.length ≤ big → ∀ a, K (zAt a) (cY a s ys :: Θ))) : We fr Γ Θ (tLc wi g tt te vs) K := fun σ F H ok env Q q => by
  refine w σ F H ok env _ fun its Θ1 ⟨xs, f, k, Γ2, e1, e2, hl, tg, hc, hs, hk⟩ J F1 H1 s1 ok1 jok => ?_
  subst e1 e2
  intro D nD
  refine ⟨fun i m H' => m = xs.length - i ∧ i ≤ xs.length ∧ ∃ F2 ys, Same F1 F2 ∧ OkF fr (cL D s ys :: Θ1) F2 H' ∧ ys.length ≤ i ∧ compD (xs.drop i) ys f k, ⟨xs.length, by simp, Nat.zero_le _, F1, [], Same.refl _, ok1.mkOwn (c := cL D s []) nD rfl ⟨[], rfl, .nil⟩, Nat.le_refl _, hc⟩, ?_⟩
  rintro i m H' ⟨rfl, hi, F2, ys, s2, ok2, yl, py⟩
  obtain ⟨j1, j2⟩ := jok F2 H' s2 ok2.fh
  by_cases hlt : i < xs.length
  · have hx : xs[i]? = some xs[i] := List.getElem?_eq_getElem hlt
    generalize xs[i] = x at hx
    obtain ⟨jg, jy⟩ := j1 i (iz r x) (by rw [List.getElem?_map, hx]; rfl)
    refine .inr ⟨jg, fun H3 => ∃ F3 ys, Same F1 F3 ∧ OkF fr (cL D s ys :: Θ1) F3 H3 ∧ ys.length ≤ i + 1 ∧ compD (xs.drop (i + 1)) ys f k, fun H3 p => ⟨xs.length - (i + 1), by omega, rfl, hlt, p⟩, fun v H3 y => ?_⟩
    obtain ⟨F3, e1, e2, e3, e4, e5⟩ := jy v H3 y
    have ok3 := ok2.grow e2 e1 e3 e4
    have s3 := s2.trans e1
    have hd : xs.drop i = x :: xs.drop (i + 1) := by
      obtain ⟨hl, e⟩ := List.getElem?_eq_some_iff.mp hx
      rw [List.drop_eq_getElem_cons hl, e]
    rw [hd] at py
    refine tg x (L2.wipe σ vs) F3 H3 v ok3.fh ((env.mono (s1.trans s3)).wipe vs) e5 _ fun σ2 env2 hw => ⟨?_, ?_⟩
    · rw [hw, wipe_idem]
    · refine hs x _ _ py σ2 F3 H3 ok3 env2 _ fun b Θ2 ⟨k1, k2⟩ F4 H4 s4 ok4 => ?_
      cases b with
      | true =>
        rw [if_pos rfl]
        refine k1 rfl σ2 F4 H4 ok4 (env2.mono s4) _ fun p Θ3 ⟨e8, y, e9, hy⟩ u F5 H5 s5 ok5 hp => ?_
        subst e8 e9
        obtain ⟨_, ⟨o, h2, acc, rfl, h4⟩, _⟩ := ok5.ce _ (List.mem_cons_self ..)
        have ok6 := ok5.mut (i := 0) (c := cL D s ys) (c' := cL D s (ys ++ [y])) (o := .lst (acc ++ [u])) rfl rfl rfl ⟨_, rfl, PySem.Paired.snoc h4 hp⟩
        refine ⟨acc, h2, ?_, F5, ys ++ [y], (s3.trans s4).trans s5, ok6, by rw [List.length_append]; show _ + 1 ≤ _; omega, hy⟩
        rw [Paired.len h4]
        exact big_lt (by omega)
      | false =>
        rw [if_neg Bool.false_ne_true]
        obtain ⟨e8, hn⟩ := k2 rfl
        subst e8
        have hn : compD (xs.drop (i + 1)) (ys ++ []) f k := hn
        rw [List.append_nil] at hn
        exact ⟨F4, ys, s3.trans s4, ok4, by omega, hn⟩
  · have e : i = xs.length := by omega
    subst e
    rw [List.drop_length] at py
    obtain ⟨_, ⟨o, h2, acc, rfl, h4⟩, _⟩ := ok2.ce _ (List.mem_cons_self ..)
    have yb : ys.length ≤ big := by omega
    have ok3 := ok2.recell (j := 0) (c := cL D s ys) (c' := cY D s ys) rfl rfl rfl fun o ho => ⟨ho, yb⟩
    refine .inl ⟨by rw [List.length_map] at j2; exact j2, q _ _ (hk ys py yb D) _ F2 H' (s1.trans s2) ok3 rfl⟩
/-- without a test -/
theorem we_lcMN {α β : Type} {r : Rep α} {s : Rep β} {wi : TI} {g : TG} {te : TE} {vs : List Nat}
    (w : Wi fr Γ Θ wi fun its Θ1 => ∃ (xs : List α) (f : α → (β → Prop) → Prop) (k : List β → Prop) (Γ2 : α → Gam), its = xs.map (iz r) ∧ Θ1 = Θ ∧ xs.length ≤ big ∧ (∀ x, TgR g vs (iz r x) (wipeG Γ vs) (Γ2 x)) ∧ mapD xs [] f k ∧
      (∀ x c kx, f x kx → We fr (Γ2 x) (c :: Θ) te fun q Θ' => Θ' = c :: Θ ∧ ∃ y, q = iz s y ∧ kx y) ∧
      (∀ ys, k ys → ys.length ≤ big → ∀ a, K (zAt a) (cY a s ys :: Θ))) : We fr Γ Θ (tLc wi g tYes te vs) K :=
  we_lcWN (r := r) (s := s) fun σ F H ok env R q => w σ F H ok env R fun its Θ1 ⟨xs, f, k, Γ2, e1, e2, hl, tg, hm, he, hk⟩ => q its Θ1 ⟨xs, fun x k => f x fun y => k (some y), k, Γ2, e1, e2, hl, tg, by rw [← mapD_comp]; exact hm,
    fun x c kx h => wt_yes ⟨fun _ => (he x c _ h), (fun h => nomatch h)⟩, hk⟩
theorem pvs_star {α : Type} {r : Rep α} {vs : List V} {xs : List α} (s2 : Same F F') (h : PVs r F vs xs) : Paired (fun (p : Vp) v => p.p F' v) (xs.map (iz r)) vs := by
  induction h with
  | nil => exact .nil
  | cons a _ ih => exact .cons (r.mono s2 a) ih
theorem wa_star {Kf : PySem.W.Frag} {te : TE} {t : TA} {K : List Vp → List Cel → Prop} (w : We fr Γ Θ te fun p Θ1 => ∃ (α : Type) (r : Rep α) (xs : List α), p = iz (yL r) xs ∧ Wa fr Γ Θ1 t fun ps Θ2 => K (xs.map (iz r) ++ ps) Θ2) : Wa fr Γ Θ (StX.tStar Kf te t) K := fun σ F H ok env Q q =>
  w σ F H ok env _ fun p Θ1 ⟨α, r, xs, e, k⟩ v F1 H1 s1 ok1 hp => by
    subst e
    obtain ⟨⟨a, vs, rfl, h2, h3⟩, h4⟩ := hp
    refine ⟨a, vs, rfl, .inr (SqL.of (ok1.fh _ _ h2)), k σ F1 H1 ok1 (env.mono s1) _ fun ps Θ2 kk us F2 H2 s2 ok2 hps => q _ Θ2 kk _ F2 H2 (s1.trans s2) ok2 ?_⟩
    exact Paired.app (pvs_star s2 h3) hps
end
end L2
set_option Elab.async false
set_option linter.all false
set_option maxRecDepth 100000
set_option maxHeartbeats 4000000
namespace L2
open PySem PySem.Spec PyProof.Rows PySem.HErr
def cBagC (N : Nat) (b l : Addr) : Cel := ⟨b, true, fun F o => ∃ (ns : List Int) (i c r : Int), 0 ≤ i ∧ i ≤ (N : Int) ∧ (cBg b l ns [i, c, r]).φ F o, fun e ⟨ns, i, c, r, h1, h2, h3⟩ => ⟨ns, i, c, r, h1, h2, (cBg b l ns [i, c, r]).mono e h3⟩, fun ⟨ns, i, c, r, _, _, h⟩ e => (cBg b l ns [i, c, r]).nt h e⟩
def CelLe (c c' : Cel) : Prop := c'.a = c.a ∧ c'.own = c.own ∧ ∀ F o, c.φ F o → c'.φ F o
theorem CelLe.refl (c : Cel) : CelLe c c := ⟨rfl, rfl, fun _ _ h => h⟩
def CLe (Θ Θ' : List Cel) : Prop := Paired CelLe Θ Θ'
theorem CLe.refl : ∀ Θ : List Cel, CLe Θ Θ
  | [] => .nil
  | c :: Θ => .cons (.refl c) (CLe.refl Θ)
theorem CLe.mem {Θ Θ' : List Cel} (h : CLe Θ Θ') {c' : Cel} (hc : c' ∈ Θ') : ∃ c ∈ Θ, CelLe c c' := by
  unfold CLe at h
  induction h with
  | nil => cases hc
  | cons a _ ih =>
    rcases List.mem_cons.mp hc with rfl | hc
    · exact ⟨_, List.mem_cons_self .., a⟩
    · obtain ⟨c, h1, h2⟩ := ih hc
      exact ⟨c, List.mem_cons_of_mem _ h1, h2⟩
theorem CLe.map {Θ Θ' : List Cel} (h : CLe Θ Θ') : Θ'.map Cel.a = Θ.map Cel.a := by
  unfold CLe at h
  induction h with
  | nil => rfl
  | cons a _ ih => rw [List.map_cons, List.map_cons, ih, a.1]
section
variable {fr fr' : Fr} {Γ Γ' : Gam} {Θ Θ' : List Cel} {F F' H H' : Hp} {K : Vp → List Cel → Prop} {Qv : VK}
def RetKN {β : Type} (fr : Fr) (N : Nat) (b l : Addr) (Qv : VK) (r : Rep β) (Q : β → Prop) : Prop := ∀ y, Q y → ∀ Θ M, M ≤ N → cBagC M b l ∈ Θ → Rt fr Θ Qv (iz r y)
theorem RetKN.fine {β : Type} {N : Nat} {b l : Addr} {r : Rep β} {Q : β → Prop} (h : RetKN fr N b l Qv r Q) (le : FrLe fr fr') : RetKN fr' N b l Qv r Q := fun y hy Θ M hM hc => (h y hy Θ M hM hc).fine le
end
end L2
set_option Elab.async false
set_option linter.all false
set_option maxRecDepth 100000
set_option maxHeartbeats 4000000
namespace L2
open PySem PySem.Spec PyProof.Rows PySem.HErr
def keyT (k : List Int) : List Key := k.map Sum.inl
theorem keyT_inj {k l : List Int} (h : keyT k = keyT l) : k = l := by
  unfold keyT at h
  exact (List.map_inj_right (fun a b e => Sum.inl.inj e)).mp h
def KVT {α : Type} (r : Rep α) (F : Hp) (kvs : List (List Key × V)) (rows : List (List Int × α)) : Prop := Paired (fun (kv : List Key × V) (x : List Int × α) => kv.1 = keyT x.1 ∧ r.p F kv.2 x.2 ∧ x.1.length ≤ big) kvs rows
theorem KVT.mono {α : Type} {r : Rep α} {F F' : Hp} {kvs : List (List Key × V)} {rows : List (List Int × α)} (h : KVT r F kvs rows) (e : Same F F') : KVT r F' kvs rows := Paired.imp2 (fun _ _ ⟨h1, h2, h3⟩ => ⟨h1, r.mono e h2, h3⟩) h
def yDT {α : Type} (r : Rep α) : Rep (List (List Int × α)) := ⟨fun F v rows => (∃ a o kvs, v = .ref a ∧ F a = some (.frz o (.dT kvs)) ∧ KVT r F kvs rows) ∧ rows.length ≤ big, fun e ⟨⟨a, o, kvs, h1, h2, h3⟩, h4⟩ => ⟨⟨a, o, kvs, h1, e _ _ h2, h3.mono e⟩, h4⟩⟩
def getT {α : Type} (rows : List (List Int × α)) (n : List Int) : Option α := (rows.find? fun x => decide (x.1 = n)).map (·.2)
def putT {α : Type} (rows : List (List Int × α)) (n : List Int) (x : α) : List (List Int × α) := if n ∈ rows.map (·.1) then rows.map fun y => if y.1 = n then (y.1, x) else y else rows ++ [(n, x)]
section
variable {fr fr' : Fr} {Γ Γ' : Gam} {Θ Θ' : List Cel} {F F' H H' : Hp} {K : Vp → List Cel → Prop} {Qv : VK}
theorem KVT.val {α : Type} {r : Rep α} {kvs : List (List Key × V)} {rows : List (List Int × α)} (h : KVT r F kvs rows) (n : List Int) : (getT rows n = none → valV kvs (keyT n) = none) ∧ ∀ x, getT rows n = some x → ∃ v, valV kvs (keyT n) = some v ∧ r.p F v x := by
  unfold KVT at h
  induction h with
  | nil => exact ⟨fun _ => rfl, (fun x e => nomatch e)⟩
  | @cons kv x ks xs h t ih =>
    obtain ⟨h1, h2, _⟩ := h
    by_cases e : x.1 = n
    · have e1 : kv.1 = keyT n := by rw [h1, e]
      have e2 : getT (x :: xs) n = some x.2 := by unfold getT; rw [List.find?_cons, decide_eq_true e]; rfl
      rw [e2, valV_pos e1]
      exact ⟨(fun q => nomatch q), fun y hy => ⟨_, rfl, by cases hy; exact h2⟩⟩
    · have e1 : ¬ kv.1 = keyT n := fun q => by rw [h1] at q; exact e (keyT_inj q)
      have e2 : getT (x :: xs) n = getT xs n := by unfold getT; rw [List.find?_cons, decide_eq_false e]
      rw [e2, valV_neg e1]
      exact ih
theorem KVT.some {α : Type} {r : Rep α} {kvs : List (List Key × V)} {rows : List (List Int × α)} (h : KVT r F kvs rows) (n : List Int) : (valV kvs (keyT n)).isSome = (getT rows n).isSome := by
  obtain ⟨h1, h2⟩ := h.val n
  cases e : getT rows n with
  | none => rw [h1 e]; rfl
  | some x =>
    obtain ⟨v, h3, _⟩ := h2 x e
    rw [h3]; rfl
theorem KVT.put {α : Type} {r : Rep α} {kvs : List (List Key × V)} {rows : List (List Int × α)} {n : List Int} {x : α} {u : V} (h : KVT r F kvs rows) (hu : r.p F u x) (hl : n.length ≤ big) : KVT r F (putK kvs (keyT n) u) (putT rows n x) := by
  have hk : (kvs.any fun kv => decide (kv.1 = keyT n)) = decide (n ∈ rows.map (·.1)) := by
    unfold KVT at h
    induction h with
    | nil => rfl
    | cons a b ih =>
      rename_i kv y kvs rows
      rw [List.any_cons, ih, a.1, List.map_cons]
      by_cases e : y.1 = n
      · rw [decide_eq_true (by rw [e]), Bool.true_or, decide_eq_true (by rw [e]; exact List.mem_cons_self ..)]
      · rw [decide_eq_false (fun q => e (keyT_inj q)), Bool.false_or]
        by_cases e2 : n ∈ rows.map (·.1)
        · rw [decide_eq_true e2, decide_eq_true (List.mem_cons_of_mem _ e2)]
        · rw [decide_eq_false e2, decide_eq_false fun q => (List.mem_cons.mp q).elim (fun q => e q.symm) e2]
  unfold putK putT
  by_cases e : n ∈ rows.map (·.1)
  · rw [if_pos e, if_pos (by rw [hk]; exact decide_eq_true e)]
    clear hk e
    unfold KVT at h ⊢
    induction h with
    | nil => exact .nil
    | cons a b ih =>
      refine .cons ?_ ih
      rename_i kv y kvs rows
      dsimp only
      by_cases e : y.1 = n
      · rw [if_pos e, if_pos (by rw [a.1, e])]
        exact ⟨a.1, hu, a.2.2⟩
      · rw [if_neg e, if_neg (fun q => e (keyT_inj (a.1.symm.trans q)))]
        exact a
  · rw [if_neg e, if_neg (by rw [hk]; simpa using e)]
    exact PySem.Paired.snoc h ⟨rfl, hu, hl⟩
end
end L2
set_option Elab.async false
set_option linter.all false
set_option maxRecDepth 100000
set_option maxHeartbeats 4000000
namespace L2
open PySem PySem.Spec PyProof.Rows PySem.HErr
end L2
set_option Elab.async false
set_option linter.all false
set_option maxRecDepth 100000
set_option maxHeartbeats 4000000
namespace L2
open PySem PySem.Spec PyProof.Rows PySem.HErr
section
variable {fr fr' : Fr} {Γ Γ' : Gam} {Θ Θ' : List Cel} {F F' H H' : Hp} {K : Vp → List Cel → Prop} {Qv : VK}
theorem Mts.le {r : V → List V → Hp → VK → Prop} {p p' : Vp} {ps : List Vp} (w : Mts fr Θ r p' ps K) (h : p.Le p') : Mts fr Θ r p ps K := fun F H v vs ok a b Q k => w F H v vs ok (h _ _ a) b Q k
end
end L2
set_option Elab.async false
set_option linter.all false
set_option maxRecDepth 100000
set_option maxHeartbeats 4000000
namespace L2
open PySem PySem.Spec PyProof.Rows PySem.HErr
class XBack {α : Type} (r : Rep α) [d : XDat r] : Prop where
  bk : ∀ {F : Hp} {v : V} {x : α}, xp F (d.enc x) v → (d.enc x).depth ≤ 60 → r.p F v x
instance : XBack yX := ⟨fun h hd => ⟨h, hd⟩⟩
instance : XBack zI := ⟨fun h _ => by simp only [XDat.enc, xp] at h; exact h⟩
instance : XBack yS := ⟨fun h _ => by simp only [XDat.enc, xp] at h; exact ⟨⟨h.1, h.2.1⟩, h.2.2⟩⟩
theorem xpAll_back {α : Type} {r : Rep α} [d : XDat r] [b : XBack r] {F : Hp} : ∀ {xs : List α} {vs : List V}, xpAll F (xs.map d.enc) vs → (∀ x ∈ xs, (d.enc x).depth ≤ 60) → PVs r F vs xs
  | [], vs, h, _ => by
    simp only [List.map_nil, xpAll] at h
    subst h
    exact .nil
  | x :: xs, vs, h, hd => by
    simp only [List.map_cons, xpAll] at h
    obtain ⟨v, r', rfl, h1, h2⟩ := h
    exact .cons (b.bk h1 (hd x (List.mem_cons_self ..))) (xpAll_back h2 fun y hy => hd y (List.mem_cons_of_mem _ hy))
instance {α : Type} {r : Rep α} [d : XDat r] [b : XBack r] : XBack (yL r) := ⟨fun {F v xs} h hd => by
  have hx : (iz yX (.list (xs.map d.enc))).p F v := ⟨h, hd⟩
  simp only [XDat.enc, xp] at h
  obtain ⟨a, vs, h1, h2, h3, h4⟩ := h
  refine ⟨⟨a, vs, h1, h2, xpAll_back h4 fun x hx => ?_⟩, by rw [List.length_map] at h3; exact h3⟩
  simp only [XDat.enc, PyData.depth] at hd
  exact depth_mem (n := 60) (by omega) (List.mem_map.mpr ⟨x, hx, rfl⟩)⟩
class XNar2 {α : Type} [TNar α] (r : Rep α) [XDat r] : Prop where
  nx : ∀ xs : List α, TNar.nar (xs.map (XDat.enc (r := r))) = true ∨ TNar.nar (xs.map (XDat.enc (r := r))) = TNar.nar xs
instance : XNar2 yS := ⟨fun xs => .inr (by show (!isSDs (xs.map PyData.str)) = xs.isEmpty; rw [isSDs_strs, Bool.not_not])⟩
instance : XNar2 yX := ⟨fun xs => .inr (by rw [show (XDat.enc (r := yX)) = id from rfl, List.map_id])⟩
/-- data that is no word -/
class XNoS {α : Type} (r : Rep α) [XDat r] : Prop where
  ns : ∀ x, isSD (XDat.enc (r := r) x) = false
instance : XNoS zI := ⟨fun _ => rfl⟩
instance {α : Type} {r : Rep α} [XDat r] : XNoS (yL r) := ⟨fun _ => rfl⟩
instance {α : Type} [TNar α] {r : Rep α} [XDat r] [XNar r] : XNoS (yT r) := ⟨fun _ => rfl⟩
instance {α : Type} {r : Rep α} [XDat r] : XNoS (z1 r) := ⟨fun _ => rfl⟩
instance {α β : Type} {r : Rep α} {s : Rep β} [XDat r] [XDat s] : XNoS (z2 r s) := ⟨fun _ => rfl⟩
instance {α β γ : Type} {r : Rep α} {s : Rep β} {t : Rep γ} [XDat r] [XDat s] [XDat t] : XNoS (z3 r s t) := ⟨fun _ => rfl⟩
instance {α : Type} [TNar α] {r : Rep α} [d : XDat r] [k : XNoS r] : XNar2 r := ⟨fun xs => .inl (by
  show (!isSDs (xs.map d.enc)) = true
  cases xs with
  | nil => rfl
  | cons y ys => exact congrArg (fun b => !b) (isSDs_no (ds := (y :: ys).map d.enc) (List.mem_map.mpr ⟨y, List.mem_cons_self .., rfl⟩) (k.ns y)))⟩
theorem XNar2.tup {α : Type} [TNar α] {r : Rep α} [XDat r] [k : XNar2 r] {F : Hp} {a : Addr} {vs : List V} {xs : List α} (h : TupB (TNar.nar (xs.map (XDat.enc (r := r)))) F a vs) : TupB (TNar.nar xs) F a vs := (k.nx xs).elim (fun e => .inl (h.nar e)) fun e => by rw [← e]; exact h
instance {α : Type} [TNar α] {r : Rep α} [d : XDat r] [XNar r] [XNar2 r] [b : XBack r] : XBack (yT r) := ⟨fun {F v xs} h hd => by
  simp only [XDat.enc, xp] at h
  obtain ⟨a, vs, h1, h2, h3, h4⟩ := h
  refine ⟨⟨a, vs, h1, XNar2.tup h2, xpAll_back h4 fun x hx => ?_⟩, by rw [List.length_map] at h3; exact h3⟩
  simp only [XDat.enc, PyData.depth] at hd
  exact depth_mem (n := 60) (by omega) (List.mem_map.mpr ⟨x, hx, rfl⟩)⟩
def SqF (F : Hp) (a : Addr) (vs : List V) : Prop := F a = some (.lst vs) ∨ F a = some (.tup vs) ∨ ∃ o, F a = some (.frz o (.tup vs))
theorem SqF.mono {F F' : Hp} {a : Addr} {vs : List V} (e : Same F F') (h : SqF F a vs) : SqF F' a vs := h.elim (fun h => .inl (e _ _ h)) fun h => .inr (h.elim (fun h => .inl (e _ _ h)) fun ⟨o, h⟩ => .inr ⟨o, e _ _ h⟩)
theorem SqF.rd {F : Hp} {a : Addr} {vs : List V} (h : SqF F a vs) : Rd F a (.lst vs) ∨ Rd F a (.tup vs) := h.elim (fun h => .inl (.inl h)) fun h => .inr (h.elim .inl .inr)
def ySq {α : Type} (r : Rep α) : Rep (List α) := ⟨fun F v xs => (∃ a vs, v = .ref a ∧ SqF F a vs ∧ PVs r F vs xs) ∧ xs.length ≤ big, fun e ⟨⟨a, vs, h1, h2, h3⟩, h4⟩ => ⟨⟨a, vs, h1, h2.mono e, Paired.imp2 (fun _ _ h => r.mono e h) h3⟩, h4⟩⟩
section
variable {fr fr' : Fr} {Γ Γ' : Gam} {Θ Θ' : List Cel} {F F' H H' : Hp} {K : Vp → List Cel → Prop} {Qv : VK}
theorem SqF.up {a : Addr} {vs : List V} (fh : Same F H) (h : SqF F a vs) : Rd H a (.lst vs) ∨ Rd H a (.tup vs) := (h.mono fh).rd
def spDf (sp : Sp) (dvs : List V) : Sp := fun vs H Q E => sp (vs ++ dvs) H Q E
end
instance {α : Type} {r : Rep α} : NotNon (yDT r) := ⟨fun F v x ⟨⟨a, o, kvs, h, _⟩, _⟩ => by rw [h]; exact fun q => by cases q⟩
instance {α : Type} {r : Rep α} : NotNon (ySq r) := ⟨fun F v x ⟨⟨a, vs, h, _⟩, _⟩ => by rw [h]; exact fun q => by cases q⟩
instance {α β γ δ ε : Type} {r : Rep α} {s : Rep β} {t : Rep γ} {u : Rep δ} {o : Rep ε} [d : XDat r] [e : XDat s] [f : XDat t] [g : XDat u] [l : XDat o] : XDat (z5 r s t u o) := ⟨fun x => .tuple [d.enc x.1, e.enc x.2.1, f.enc x.2.2.1, g.enc x.2.2.2.1, l.enc x.2.2.2.2], max d.dep (max e.dep (max f.dep (max g.dep l.dep))) + 1, fun ⟨a, v1, v2, v3, v4, v5, h1, h2, h3, h4, h5, h6, h7⟩ => by
  refine ⟨?_, ?_⟩
  · simp only [xp]
    exact ⟨a, _, h1, .inl h2, by show 5 ≤ 100000; decide, by simp only [xpAll]; exact ⟨_, _, rfl, (d.xd h3).1, _, _, rfl, (e.xd h4).1, _, _, rfl, (f.xd h5).1, _, _, rfl, (g.xd h6).1, _, _, rfl, (l.xd h7).1, rfl⟩⟩
  · have := (d.xd h3).2
    have := (e.xd h4).2
    have := (f.xd h5).2
    have := (g.xd h6).2
    have := (l.xd h7).2
    simp only [PyData.depth, PyData.depthAll]
    omega⟩
instance {α β γ δ ε : Type} {r : Rep α} {s : Rep β} {t : Rep γ} {u : Rep δ} {o : Rep ε} [XDat r] [XDat s] [XDat t] [XDat u] [XDat o] : PDat (z5 r s t u o) := ⟨fun _ => rfl⟩
instance {α β γ δ : Type} {r : Rep α} {s : Rep β} {t : Rep γ} {u : Rep δ} [d : Dat r] [e : Dat s] [f : Dat t] [g : Dat u] : Dat (z4 r s t u) := ⟨fun x => .tuple [d.enc x.1, e.enc x.2.1, f.enc x.2.2.1, g.enc x.2.2.2], d.dep + e.dep + f.dep + g.dep + 1, fun ⟨a, v1, v2, v3, v4, h1, h2, h3, h4, h5, h6⟩ => by subst h1; exact .tup (SqT.of h2) (.cons (d.dp h3) (.cons (e.dp h4) (.cons (f.dp h5) (.cons (g.dp h6) .nil)))),
  fun ⟨a, v1, v2, v3, v4, h1, h2, h3, h4, h5, h6⟩ => by show (nb _ && (nb _ && (nb _ && (nb _ && true)))) = true; rw [d.ok h3, e.ok h4, f.ok h5, g.ok h6]; rfl, fun x => by
    have h1 := d.dl x.1
    have h2 := e.dl x.2.1
    have h3 := f.dl x.2.2.1
    have h4 := g.dl x.2.2.2
    simp only [PyData.depth, PyData.depthAll]
    omega, fun {x y} h => by
    have h := PyData.tuple.inj h
    rw [List.cons.injEq, List.cons.injEq, List.cons.injEq, List.cons.injEq] at h
    exact Prod.ext (d.inj h.1) (Prod.ext (e.inj h.2.1) (Prod.ext (f.inj h.2.2.1) (g.inj h.2.2.2.1)))⟩
end L2
set_option Elab.async false
set_option linter.all false
set_option maxRecDepth 100000
set_option maxHeartbeats 4000000
namespace L2
open PySem PySem.Spec PyProof.Rows PySem.HErr
section
variable {fr fr' : Fr} {Γ Γ' : Gam} {Θ Θ' Θr : List Cel} {F F' H H' : Hp} {K : Vp → List Cel → Prop} {Qv : VK}
theorem perm_at {j : Nat} {c : Cel} (hj : Θ[j]? = some c) : Θ.Perm (c :: Θ.eraseIdx j) := by
  induction Θ generalizing j with
  | nil => cases hj
  | cons d Θ ih =>
    cases j with
    | zero => cases hj; exact .refl _
    | succ j => exact ((ih hj).cons d).trans (.swap c d _)
def preL {α β γ : Type} (ef : HE → Er) (args : List Addr → α → List Vp) (cin : List Addr → α → List Cel) (r : Rep β) (cout : List Addr → α → γ → List Cel) (m : α → DM (β × γ)) : PreC := fun ps Θ out err =>
  ∃ as x Q X, ps = args as x ∧ Θ = cin as x ∧ m x Q X ∧ (out = fun p Θ' => ∃ y g, Q (y, g) ∧ p = iz r y ∧ Θ' = cout as x g) ∧ (err = fun e Θ' => ∃ z g, X z ∧ e = ef z ∧ Θ' = cout as x g)
/-- what a def with lent cells returns -/
def RetL {β γ : Type} (fr : Fr) (Qv : VK) (r : Rep β) (cout : γ → List Cel) (Q : β × γ → Prop) : Prop := ∀ y g, Q (y, g) → ∀ Θ'' Θx, Θ''.Perm (cout g ++ Θx) → Rt fr Θ'' Qv (iz r y)
theorem RetL.fine {β γ : Type} {r : Rep β} {cout : γ → List Cel} {Q : β × γ → Prop} (h : RetL fr Qv r cout Q) (l : FrLe fr fr') : RetL fr' Qv r cout Q := fun y g hq Θ'' Θx pm => (h y g hq Θ'' Θx pm).fine l
/-- an error may leave: the cells hold something -/
def RseL {γ : Type} (fr : Fr) (E : XK) (ef : HE → Er) (cout : γ → List Cel) (X : HE → Prop) : Prop := ∀ z, X z → ∀ g Θ'' Θx, Θ''.Perm (cout g ++ Θx) → ∀ Γ, Kr fr Γ Θ'' (fun cls d _ H => E cls d H) (ef z)
theorem RseL.fine {γ : Type} {E : XK} {ef : HE → Er} {cout : γ → List Cel} {X : HE → Prop} (h : RseL fr E ef cout X) (l : FrLe fr fr') : RseL fr' E ef cout X := fun z hz g Θ'' Θx pm Γ σ F H ok env d us hd hf => h z hz g Θ'' Θx pm Γ σ F H (ok.le l) env d us hd hf
/-- a frozen instance of the class at C, its fields as g tells -/
def zIn {α : Type} (C : Addr) (g : α → List (Str × Vp)) : Rep α := ⟨fun F v x => ∃ a dx us, v = .ref a ∧ F a = some (.ins C dx us) ∧ FsOk F (g x) us, fun e ⟨a, dx, us, h1, h2, h3⟩ => ⟨a, dx, us, h1, e _ _ h2, h3.mono e⟩⟩
instance {α : Type} {C : Addr} {g : α → List (Str × Vp)} : NotNon (zIn C g) := ⟨fun F v x ⟨a, dx, us, h, _⟩ => by rw [h]; exact fun q => by cases q⟩
/-- the class at C stands, and has none of the fields' names -/
structure ClsF (K : PySem.W.Frag) (C : Addr) (fs : List Str) : Prop where
  cl : Cls K C
  no : ∀ f ∈ fs, NoAttr K C f
theorem fld_in {Kf : PySem.W.Frag} {α : Type} {C : Addr} {g : α → List (Str × Vp)} {x : α} {f : Str} {fs : List Str} {q : Vp} (T : ClsF Kf C fs) (hf : f ∈ fs) (h : (g x).lookup f = some q) : FldP fr Θ Kf f (iz (zIn C g) x) q := fun F H v ok ⟨a, dx, us, h1, h2, h3⟩ => by
  obtain ⟨u, h4, h5⟩ := h3.look h
  exact ⟨a, C, dx, us, u, h1, ok.fh _ _ h2, T.cl, T.no f hf, h4, h5⟩
/-- self.f = e, of one's own instance -/
theorem kn_putF {Kf : PySem.W.Frag} {f : Str} {fs : List Str} {ta tv : TE} {D : Ends} {C : Addr} (T : ClsF Kf C fs) (hf : f ∈ fs) (w : We fr Γ Θ tv fun p Θ1 => We fr Γ Θ1 ta fun q Θ2 => ∃ a dx fl j, q = zAt a ∧ Θ2[j]? = some (cI a C dx fl) ∧ fl.length < 1000 ∧ Kn fr Γ (Θ2.set j (cI a C dx (putP f p fl))) D.nx) : Kn fr Γ Θ (sFld Kf ta tv f D) :=
  kn_fldPut (w.imp fun p Θ1 h => h.imp fun q Θ2 ⟨a, dx, fl, j, e, hj, hl, k⟩ => ⟨a, C, dx, fl, j, e, hj, T.cl, T.no f hf, hl, k⟩)
/-- one's own list in a field is frozen -/
theorem FsOk.at {F : Hp} {fl : List (Str × Vp)} {us : List (Str × V)} (h : FsOk F fl us) {k : Nat} {f : Str} {p q : Vp} (hk : fl[k]? = some (f, p)) (hq : ∀ v, p.p F v → q.p F v) : FsOk F (fl.set k (f, q)) us := by
  induction h generalizing k with
  | nil => cases hk
  | cons a b ih =>
    cases k with
    | zero =>
      cases hk
      exact .cons ⟨a.1, hq _ a.2⟩ b
    | succ k => exact .cons a (ih hk)
/-- what __init__ is to end with -/
def InitW {α : Type} (fr : Fr) (x C : Addr) (g : α → List (Str × Vp)) (Qn : L2.St → Hp → Prop) (Q : α → Prop) : Prop := ∀ y, Q y → ∀ (Γ : Gam) (Θ : List Cel) (i : Nat) (dx : Addr), Θ[i]? = some (cI x C dx (g y)) → Kn fr Γ Θ Qn
end
section
variable {P : Program} {w : World} {K : PySem.W.Frag} {mg : Str → Option Value} {base : Heap} {x m qual : Str} {C : Addr} {st : Stmt} {N ps : List Str} {k : Nat} {α β γ : Type} {ef : HE → Er} {args : List Addr → α → List Vp} {cin : List Addr → α → List Cel} {cout : List Addr → α → γ → List Cel} {r : Rep β} {md : α → DM (β × γ)}
theorem lent_len (len : ∀ as x, (args as x).length = ps.length) (own : ∀ as x, ∀ c ∈ cin as x, c.own = true) : ∀ qs Θ out err, preL ef args cin r cout md qs Θ out err → qs.length = ps.length ∧ ∀ c ∈ Θ, c.own = true := fun qs Θ out err ⟨as, a, Q, X, e1, e2, _⟩ => by
  subst e1 e2
  exact ⟨len as a, own as a⟩
theorem Src.okL (F : Src K mg x st ps) (S : FnScope N ps (defScope st)) (len : ∀ as x, (args as x).length = ps.length) (own : ∀ as x, ∀ c ∈ cin as x, c.own = true) (tg : ∀ as x g, (cout as x g).map tagC = (cin as x).map tagC)
    (hbody : ∀ (f : Addr) (cdv : Value) (A : Around) (outer : List Env) (s : Shared) (H : Hp) (E : XK) (as : List Addr) (a : α) (Q : β × γ → Prop) (X : HE → Prop), Room k (A.deeper (envOfC x (defScope st) s.heap.objs.size f cdv)) → md a Q X →
      ∃ t, PSs (cxOf CX0 P w K mg base N x (defScope st) f cdv A outer s H E).nox (defBody st) t ∧ ∀ fr Qv, RetL fr Qv r (cout as a) Q → Kn fr (envOf N (args as a)) (cin as a) (t { nx := fun _ H' => Qv .non H', rt := Qv })) : Def P w K mg base CX0 (k + 1) x ps (spC (preL ef args cin r cout md)) :=
  F.okC S (lent_len len own) fun f cdv A outer s H E qs Θ out err hr ⟨as, a, Q, X, e1, e2, h, e3, e4⟩ => by
    subst e1 e2 e3 e4
    obtain ⟨t, ht, hk⟩ := hbody f cdv A outer s H E as a Q X hr h
    exact ⟨t, ht, fun fr Qv hret => hk fr Qv fun y g hq Θ'' Θx pm => hret _ _ ⟨y, g, hq, rfl, rfl⟩ (tg as a g) Θ'' Θx pm⟩
theorem SrcM.okL (F : SrcM K C m qual st ps) (S : FnScope N ps (defScope st)) (len : ∀ as x, (args as x).length = ps.length) (own : ∀ as x, ∀ c ∈ cin as x, c.own = true) (tg : ∀ as x g, (cout as x g).map tagC = (cin as x).map tagC)
    (hbody : ∀ (f : Addr) (cdv : Value) (A : Around) (outer : List Env) (s : Shared) (H : Hp) (E : XK) (as : List Addr) (a : α) (Q : β × γ → Prop) (X : HE → Prop), Room k (A.deeper (envOfC qual (defScope st) s.heap.objs.size f cdv)) → md a Q X →
      ∃ t, PSs (cxOf CX0 P w K mg base N qual (defScope st) f cdv A outer s H E).nox (defBody st) t ∧ ∀ fr Qv, RetL fr Qv r (cout as a) Q → Kn fr (envOf N (args as a)) (cin as a) (t { nx := fun _ H' => Qv .non H', rt := Qv })) : DefM P w K mg base CX0 (k + 1) C m ps (spC (preL ef args cin r cout md)) :=
  F.okC S (lent_len len own) fun f cdv A outer s H E qs Θ out err hr ⟨as, a, Q, X, e1, e2, h, e3, e4⟩ => by
    subst e1 e2 e3 e4
    obtain ⟨t, ht, hk⟩ := hbody f cdv A outer s H E as a Q X hr h
    exact ⟨t, ht, fun fr Qv hret => hk fr Qv fun y g hq Θ'' Θx pm => hret _ _ ⟨y, g, hq, rfl, rfl⟩ (tg as a g) Θ'' Θx pm⟩
theorem SrcI.okW {α β : Type} {args : α → List Vp} {md : α → DM β} {g : β → List (Str × Vp)} (F : SrcI K C qual st ps) (S : FnScope N ps (defScope st)) (len : ∀ x, (args x).length + 1 = ps.length)
    (hbody : ∀ (f : Addr) (cdv : Value) (A : Around) (outer : List Env) (s : Shared) (H : Hp) (E : XK) (a : α) (Q : β → Prop) (X : HE → Prop), Room k (A.deeper (envOfC qual (defScope st) s.heap.objs.size f cdv)) → md a Q X →
      ∃ t, PSs (cxOf (L2.CX P w) P w K mg base N qual (defScope st) f cdv A outer s H E) (defBody st) t ∧ ∀ fr x dx (Qn : L2.St → Hp → Prop) (rt : VK), InitW fr x C g Qn Q → RseW fr E ef X → Kn fr (envOf N (zAt x :: args a)) [cI x C dx []] (t { nx := Qn, rt := rt })) : DefI P w K mg base (L2.CX P w) (k + 1) C ps (spI C (preW ef args (zIn C g) md)) :=
  F.okAX S (fun qs out err ⟨a, Q, X, e, _⟩ => by rw [e]; exact len a) fun f cdv A outer s H E qs out err hr ⟨a, Q, X, e1, h, e2, e3⟩ => by
    subst e1 e2 e3
    obtain ⟨t, ht, hk⟩ := hbody f cdv A outer s H E a Q X hr h
    refine ⟨t, ht, fun fr x dx Qn rt hq hrt hrse => hk fr x dx Qn rt (fun y hy Γ Θ i dx' hi σ F' H' ok env => ?_) fun z hz Γ Θ => kr_E hrse ⟨z, hz, rfl⟩⟩
    obtain ⟨h1, ⟨o, h2, us, rfl, h4⟩, h5⟩ := ok.ce _ (List.mem_of_getElem? hi)
    have ok2 := ok.frz hi rfl h2
    have sF : Same F' (upd F' x (.ins C dx' us)) := same_upd h1
    exact hq _ ⟨y, hy, rfl⟩ σ _ H' ⟨_, ok2⟩ ⟨x, dx', us, rfl, upd_same, h4.mono sF⟩
end
end L2
set_option Elab.async false
set_option linter.all false
set_option maxRecDepth 100000
set_option maxHeartbeats 4000000
namespace L2
open PySem PySem.Spec PyProof.Rows PySem.HErr
open PySem.W (findIn isFn selfFirst subIn)
/-- what a comparison of the class at C asks -/
structure CmpC (K : PySem.W.Frag) (C : Addr) : Prop where
  si : subIn K (.type "int") (.ref C) = some false
  is : subIn K (.ref C) (.type "int") = some false
end L2
set_option Elab.async false
set_option linter.all false
set_option maxRecDepth 100000
set_option maxHeartbeats 4000000
namespace L2
open PySem PySem.Spec PyProof.Rows PySem.HErr
open PySem.W (findIn isFn)
/-- // by any divisor below 2 ^ 9000 -/
def CDivZ (_ j : Int) : Prop := j ≠ 0 ∧ j.natAbs.log2 < 9000
theorem op_fdivZ {X : Cx} : OpR X (binaryOp .FloorDiv) (rI CDivZ fun i j => .int (i.fdiv j)) := opI fun i j _ _ _ _ _ hc q => floordiv_int hc.1 q (.inl (PyProof.noPylong_of_log2 hc.2))
/-- the values that stand for the parameters of __init__ that are left out -/
def DflI (K : PySem.W.Frag) (C : Addr) (ps : List Str) (dvs : List V) : Prop := ∀ f fd, findIn K (.ref C) "__init__" = some (some (.ref f)) → LkF K f fd → ∃ ds, Vals dvs ds ∧ Binds K fd ps ds
section
variable {X : Cx} {CX : CXT} {k : Nat} {C : Addr} {ps : List Str} {sp : Sp} {E : St → XK} {x : Str} {p pos : Pos} {e : Expr} {es : List Expr} {t : TA} {dvs : List V}
theorem pe_mkDD (D : DefI X.prog X.w X.K X.mg X.base CX k C ps sp) (L : DflI X.K C ps dvs) (hm : X.mg x = some (.ref C)) (hr : Room (k + 1) X.A) (hx : ∀ σ, PassesAt CX X σ (E σ)) (ha : PA X (e :: es) t) (hg : Gl X x := by rfl)
    (hdb : (x == ("__debug__" : Str)) = false := by decide) (he : starEach (e :: es) X.env = (false, eval e X.env) :: starEach es X.env := by rfl) (hpl : (backTo pos (starEach es X.env)).any (·.1) = false := by rfl) :
    PE X (.Call (.Name x p) (e :: es) [] pos) (tMkD C (spDf sp dvs) E t) := by
  obtain ⟨f, fd, hlk, M, _, F⟩ := D.ex
  obtain ⟨ds, hd, hb⟩ := L f fd M.init hlk
  refine ⟨fun pins s0 σ H0 Q I0 h0 => ?_⟩
  refine wpAny_Call_Name_kw (ld_glob I0 hg hm ?_ hdb)
  refine PySem.W.callWith_K (h₀ := X.base) I0.ok.mod.kin M.kp (thn (ha.run pos pins s0 σ H0 _ I0 h0) fun us s ⟨vs, H, I, r, h⟩ => ⟨I.kIn, ?_⟩) he hpl
  show wpAny _ _ (call (.ref C) us) _ _ _
  have hq := h (s.heap.objs.size + 1) s.heap.objs.size (I.hok.fresh (Nat.le_succ _)) (I.hok.fresh (Nat.le_refl _)) (Nat.ne_of_lt (Nat.lt_succ_self _))
  have I2 := Inv.made (C := C) I
  have r1 : Vals (V.ref (s.heap.objs.size + 1) :: vs) (Value.ref (s.heap.objs.size + 1) :: us) := .cons rfl r
  have r2 : Vals ((V.ref (s.heap.objs.size + 1) :: vs) ++ dvs) ((Value.ref (s.heap.objs.size + 1) :: us) ++ ds) := r1.append hd
  have hl : ((Value.ref (s.heap.objs.size + 1) :: us) ++ ds).length = ps.length := by
    have e := r2.length
    rw [F.len _ _ _ _ hq] at e
    exact e.symm
  have hbb := hb _ (Value.ref (s.heap.objs.size + 1) :: us) I2.kIn hl
  refine wpAny_call (make_map (f := f) I.kIn M.makes M.init (beq_iff_eq.mp M.fn) (codeAny_mono (F.run _ X.stack _ _ ⟨Value.ref (s.heap.objs.size + 1) :: us, []⟩ ((Value.ref (s.heap.objs.size + 1) :: us) ++ ds) _ _ (E σ) (hr.make C us [])
    (I2.env0.make C us []) hbb r2 hq) fun r s' hq' => ?_))
  cases r with
  | error e => exact hx σ pins _ _ e s' I2 hq'
  | ok fl =>
    cases fl with
    | ret u =>
      obtain ⟨v, H', I3, rv, ev, q3⟩ := I2.after hq'
      subst ev
      exact ⟨rv, ⟨V.ref (s.heap.objs.size + 1), H', I3, rfl, q3⟩⟩
    | next => exact False.elim hq'
    | brk => exact False.elim hq'
    | cont => exact False.elim hq'
end
section
variable {fr : Fr} {Γ Γ' : Gam} {Θ : List Cel} {F F' H H' : Hp} {K : Vp → List Cel → Prop} {Q : VK} {C : Addr} {sp : Sp} {E : L2.St → XK} {R : V → Prop} {ta tb : TE}
def tAp (t : TA) (dvs : List V) : TA := fun σ H q => t σ H fun vs => q (vs ++ dvs)
theorem wa_ap {t : TA} {dvs : List V} {dps : List Vp} {K : List Vp → List Cel → Prop} (hd : Paired (fun (p : Vp) v => ∀ F, p.p F v) dps dvs) (w : Wa fr Γ Θ t fun ps Θ1 => K (ps ++ dps) Θ1) : Wa fr Γ Θ (tAp t dvs) K := fun σ F H ok env Q q =>
  w σ F H ok env _ fun ps Θ1 hk vs F1 H1 s1 ok1 hps => q _ Θ1 hk _ F1 H1 s1 ok1 (Paired.app hps (Paired.imp2 (fun _ _ h => h F1) hd))
theorem we_mkDf {pre : Pre} {t : TA} {dvs : List V} {dps : List Vp} (hd : Paired (fun (p : Vp) v => ∀ F, p.p F v) dps dvs) (w : Wa fr Γ Θ t fun ps Θ1 => MkPr fr Γ Θ1 pre E (ps ++ dps) K) : We fr Γ Θ (tMkD C (spDf (spI C pre) dvs) E t) K :=
  (we_mkP (t := tAp t dvs) (wa_ap hd w) : We fr Γ Θ (tMkD C (spI C pre) E (tAp t dvs)) K)
theorem insC_in {α : Type} {g : α → List (Str × Vp)} {x : α} : InsC fr Θ (iz (zIn C g) x) C := fun F H v ok ⟨a, dx, us, h1, h2, _⟩ => ⟨a, dx, us, h1, ok.fh _ _ h2⟩
end
/-- an own class, all that is asked of it -/
structure ClsA (K : PySem.W.Frag) (mg : Str → Option Value) (C : Addr) (x : Str) (fs : List Str) : Prop extends ClsF K C fs where
  mg : mg x = some (.ref C)
  io : IsO K C
  k1 : PySem.W.kitOne K (.ref C) (.ref C) = some true
  k2 : PySem.W.kitOne K (.type "int") (.ref C) = some false
  k3 : PySem.W.kitAny K (.ref C) [.ref C, .type "int"] = some true
  k4 : PySem.W.kitAny K (.type "int") [.ref C, .type "int"] = some true
  cc : CmpC K C
theorem ClsA.glo {K : PySem.W.Frag} {mg : Str → Option Value} {C : Addr} {x : Str} {fs : List Str} (T : ClsA K mg C x fs) : Glo mg x (.ref C) := ⟨_, T.mg, rfl⟩
theorem InitW.fine {α : Type} {fr fr' : Fr} {x C : Addr} {g : α → List (Str × Vp)} {Qn : L2.St → Hp → Prop} {Q : α → Prop} (h : InitW fr x C g Qn Q) (l : FrLe fr fr') : InitW fr' x C g Qn Q := fun y hy Γ Θ i dx hi σ F H ok env => h y hy Γ Θ i dx hi σ F H (ok.le l) env
section
variable {K : PySem.W.Frag} {qual : Str} {C : Addr} {st : Stmt} {ps : List Str} {f T : Addr} {oc oc' : Value} {od od' an : Option Addr} {osl sl' : Array (Option Value)} {kV doc pm cdv ct : Value} {its : List Value} {n' : Nat} {dvs : List V}
theorem funDI_mk (l : K.lookup f = some ⟨oc, od, .func (PySem.W.fnOf "__init__" qual (defArgs st) (defBody st) (defScope st) (.ref T) kV doc pm an cdv ct), osl⟩) (c : PySem.W.codeIn K cdv qual = true) (k : PySem.W.keepIn K (.ref f) = true)
    (dl : K.lookup T = some ⟨oc', od', .seq its.toArray n', sl'⟩) (rv : Vals dvs its) (hd : dvs ≠ []) : FunD K "__init__" qual (defArgs st) (defBody st) (defScope st) dvs [] f (PySem.W.fnOf "__init__" qual (defArgs st) (defBody st) (defScope st) (.ref T) kV doc pm an cdv ct) :=
  ⟨⟨oc, od, .ref T, kV, doc, pm, an, cdv, ct, osl, rfl, l, c, .inr ⟨hd, T, _, its, n', rfl, dl, rfl, rv⟩, .inl rfl⟩, k⟩
theorem srcID_mk (mk : PySem.W.makesIn K C = true) (kc : PySem.W.keepIn K (.ref C) = true) (a : findIn K (.ref C) "__init__" = some (some (.ref f))) (i : isFn K (.ref f) = true)
    (l : K.lookup f = some ⟨oc, od, .func (PySem.W.fnOf "__init__" qual (defArgs st) (defBody st) (defScope st) (.ref T) kV doc pm an cdv ct), osl⟩) (c : PySem.W.codeIn K cdv qual = true) (k : PySem.W.keepIn K (.ref f) = true)
    (dl : K.lookup T = some ⟨oc', od', .seq its.toArray n', sl'⟩) (rv : Vals dvs its) (hd : dvs ≠ [])
    (hb : ∀ (T : Addr) (kV doc pm : Value) (an : Option Addr) (cdv ct : Value) (us its : List Value), us.length = ps.length → its.length = dvs.length → ∃ k, bindArgs (PySem.W.fnOf "__init__" qual (defArgs st) (defBody st) (defScope st) (.ref T) kV doc pm an cdv ct) ⟨us, []⟩ = seqItems? (.ref T) >>= k ∧ k (some its.toArray) = pure (ps.zip us)) : SrcI K C qual st ps := by
  have F := funDI_mk l c k dl rv hd
  obtain ⟨ds, h1, h2⟩ := F.binds1 (ps := ps) ps.length dvs.length hd (by omega) (fun T kV doc pm an cdv ct us its h1 h2 => by
    obtain ⟨k, e1, e2⟩ := hb T kV doc pm an cdv ct us its h1 h2
    refine ⟨k, e1, ?_⟩
    rw [e2, ← h2, List.drop_length, List.append_nil])
  rw [List.drop_length] at h1
  cases h1
  exact ⟨f, _, ⟨⟨oc, od, .ref T, kV, doc, pm, an, cdv, ct, osl, rfl, l, c⟩, k⟩, ⟨mk, a, i, kc⟩, h2⟩
theorem dflI_mk (n : Nat) (a : findIn K (.ref C) "__init__" = some (some (.ref f))) (l : K.lookup f = some ⟨oc, od, .func (PySem.W.fnOf "__init__" qual (defArgs st) (defBody st) (defScope st) (.ref T) kV doc pm an cdv ct), osl⟩) (c : PySem.W.codeIn K cdv qual = true) (k : PySem.W.keepIn K (.ref f) = true)
    (dl : K.lookup T = some ⟨oc', od', .seq its.toArray n', sl'⟩) (rv : Vals dvs its) (hd : dvs ≠ []) (hn : n + dvs.length = ps.length)
    (hb : ∀ (T : Addr) (kV doc pm : Value) (an : Option Addr) (cdv ct : Value) (us its : List Value), us.length = n → its.length = dvs.length → ∃ k, bindArgs (PySem.W.fnOf "__init__" qual (defArgs st) (defBody st) (defScope st) (.ref T) kV doc pm an cdv ct) ⟨us, []⟩ = seqItems? (.ref T) >>= k ∧ k (some its.toArray) = pure (ps.zip (us ++ its))) : DflI K C ps dvs := by
  intro f' fd' hm ⟨oc2, od2, osl2, lk⟩
  rw [a] at hm
  cases hm
  rw [l] at lk
  cases lk
  have F := funDI_mk l c k dl rv hd
  exact F.binds1 (ps := ps) n 0 hd (by omega) (fun T kV doc pm an cdv ct us its h1 h2 => hb T kV doc pm an cdv ct us its h1 h2)
end
end L2
set_option Elab.async false
set_option linter.all false
set_option maxRecDepth 100000
set_option maxHeartbeats 4000000
namespace L2
open PySem PySem.Spec PyProof.Rows PySem.HErr
theorem ixNn {n j : Nat} (h : j < n) : ixN n (j : Int) = some j := by
  unfold ixN
  rw [if_pos (by omega), if_pos (by omega)]
  rfl
abbrev TRw := Str × List Int × List Int
def IxOk (n : Nat) (ks : List Int) : Prop := ks.Nodup ∧ ∀ k ∈ ks, ∃ j : Nat, k = (j : Int) ∧ j < n
/-- the state behind a step -/
def mvF (s t g : List Int) : List Int := (List.range s.length).map fun (j : Nat) => s.getD j 0 - (if (j : Int) ∈ t then 1 else 0) + (if (j : Int) ∈ g then 1 else 0)
theorem mvF_len {s t g : List Int} : (mvF s t g).length = s.length := by unfold mvF; rw [List.length_map, List.length_range]
theorem mvF_get {s t g : List Int} {j : Nat} (h : j < s.length) : (mvF s t g).getD j 0 = s.getD j 0 - (if (j : Int) ∈ t then 1 else 0) + (if (j : Int) ∈ g then 1 else 0) := by
  unfold mvF
  rw [List.getD_eq_getElem?_getD, List.getElem?_map, List.getElem?_range h]
  rfl
def enB (s t : List Int) : Bool := t.all fun k => decide (s.getD k.toNat 0 > 0)
def movF (s t g : List Int) : Option (List Int) := if enB s t = true then some (mvF s t g) else none
def NonN (s : List Int) : Prop := ∀ n ∈ s, 0 ≤ n
theorem NonN.get {s : List Int} (h : NonN s) (j : Nat) : 0 ≤ s.getD j 0 := by
  rw [List.getD_eq_getElem?_getD]
  cases e : s[j]? with
  | none => exact Int.le_refl _
  | some x => exact h x (List.mem_of_getElem? e)
theorem nonN_of {s : List Int} (h : ∀ j < s.length, 0 ≤ s.getD j 0) : NonN s := fun n hn => by
  obtain ⟨j, hj⟩ := List.getElem?_of_mem hn
  have h1 := (List.getElem?_eq_some_iff.mp hj).1
  have := h j h1
  rw [List.getD_eq_getElem?_getD, hj] at this
  exact this
theorem movF_len {s t g z : List Int} (h : movF s t g = some z) : z.length = s.length := by
  unfold movF at h
  split at h
  · cases h; exact mvF_len
  · cases h
theorem movF_non {s t g z : List Int} (hs : NonN s) (ht : IxOk s.length t) (h : movF s t g = some z) : NonN z := by
  unfold movF at h
  split at h
  · rename_i he
    cases h
    refine nonN_of fun j hj => ?_
    rw [mvF_len] at hj
    rw [mvF_get hj]
    have h0 := hs.get j
    by_cases q : (j : Int) ∈ t
    · have := List.all_eq_true.mp he _ q
      have := of_decide_eq_true this
      rw [Int.toNat_natCast] at this
      rw [if_pos q]
      split <;> omega
    · rw [if_neg q]
      split <;> omega
  · cases h
/-- two tables of the same steps -/
def RowR (n : Nat) (a b : TRw) : Prop := a.1 = b.1 ∧ (∀ k, k ∈ a.2.1 ↔ k ∈ b.2.1) ∧ (∀ k, k ∈ a.2.2 ↔ k ∈ b.2.2) ∧ IxOk n a.2.1 ∧ IxOk n a.2.2 ∧ IxOk n b.2.1 ∧ IxOk n b.2.2
abbrev TabRel (n : Nat) (a b : List TRw) : Prop := Paired (RowR n) a b
def TabOk (n : Nat) (a : List TRw) : Prop := (∀ r ∈ a, IxOk n r.2.1 ∧ IxOk n r.2.2) ∧ (a.map (·.1)).Nodup
def rowOf (tab : List TRw) (z : Str) : Option TRw := tab.find? fun r => decide (r.1 = z)
theorem TabRel.row {n : Nat} {a b : List TRw} (h : TabRel n a b) (z : Str) : (rowOf a z = none ∧ rowOf b z = none) ∨ ∃ r r', rowOf a z = some r ∧ rowOf b z = some r' ∧ RowR n r r' := by
  induction h with
  | nil => exact .inl ⟨rfl, rfl⟩
  | @cons r r' as bs hr _ ih =>
    unfold rowOf
    rw [List.find?_cons, List.find?_cons]
    by_cases e : r.1 = z
    · refine .inr ⟨r, r', ?_, ?_, hr⟩
      · rw [decide_eq_true e]
      · rw [decide_eq_true (hr.1.symm.trans e)]
    · rw [decide_eq_false e, decide_eq_false (fun q => e (hr.1.trans q))]
      exact ih
/-- the state behind a run -/
def runF (tab : List TRw) : List Int → List Str → Option (List Int)
  | s, [] => some s
  | s, z :: zs => match rowOf tab z with
    | none => none
    | some r => match movF s r.2.1 r.2.2 with
      | none => none
      | some s' => runF tab s' zs
theorem runF_app (tab : List TRw) : ∀ (zs ys : List Str) (s : List Int), runF tab s (zs ++ ys) = (runF tab s zs).bind fun s' => runF tab s' ys
  | [], ys, s => rfl
  | z :: zs, ys, s => by
    show runF tab s (z :: (zs ++ ys)) = _
    rw [runF, runF]
    cases rowOf tab z with
    | none => rfl
    | some r =>
      dsimp only
      cases movF s r.2.1 r.2.2 with
      | none => rfl
      | some s' => exact runF_app tab zs ys s'
theorem rowOf_mem {tab : List TRw} {z : Str} {r : TRw} (h : rowOf tab z = some r) : r ∈ tab ∧ r.1 = z := ⟨List.mem_of_find?_eq_some h, of_decide_eq_true (List.find?_some (p := fun r : TRw => decide (r.1 = z)) h)⟩
theorem runF_keep {n : Nat} {tab : List TRw} (ht : TabOk n tab) : ∀ (zs : List Str) {s z : List Int}, s.length = n → NonN s → runF tab s zs = some z → z.length = n ∧ NonN z
  | [], s, z, hl, hn, h => by cases h; exact ⟨hl, hn⟩
  | y :: zs, s, z, hl, hn, h => by
    unfold runF at h
    cases e : rowOf tab y with
    | none => rw [e] at h; cases h
    | some r =>
      rw [e] at h
      dsimp only at h
      cases e2 : movF s r.2.1 r.2.2 with
      | none => rw [e2] at h; cases h
      | some s' =>
        rw [e2] at h
        exact runF_keep ht zs ((movF_len e2).trans hl) (movF_non hn (by rw [hl]; exact (ht.1 r (rowOf_mem e).1).1) e2) h
theorem TabRel.okL {n : Nat} {a b : List TRw} (h : TabRel n a b) : ∀ r ∈ a, IxOk n r.2.1 ∧ IxOk n r.2.2 := fun r hr => by
  obtain ⟨i, hi⟩ := List.getElem?_of_mem hr
  obtain ⟨r', _, q⟩ := Paired.get h hi
  exact ⟨q.2.2.2.1, q.2.2.2.2.1⟩
theorem TabRel.names {n : Nat} {a b : List TRw} (h : TabRel n a b) : a.map (·.1) = b.map (·.1) := by
  induction h with
  | nil => rfl
  | cons hr _ ih => rw [List.map_cons, List.map_cons, hr.1, ih]
theorem intsF_sp {n : Nat} {pre post : List Int} {x : Int} (e : intsF 0 n = pre ++ x :: post) : x = (pre.length : Int) ∧ pre.length < n := by
  have h : (intsF 0 n)[pre.length]? = some x := by rw [e, List.getElem?_append_right (Nat.le_refl _), Nat.sub_self]; rfl
  obtain ⟨h1, h2⟩ := intsF_get h
  exact ⟨by omega, h1⟩
/-- where ways meet: what is known there, what follows, and each way -/
theorem joinD_inv {S : Type} {f : (S → Prop) → Prop} {k : S → Prop} (I : S → Prop) (hk : ∀ s, I s → k s) (hf : ∀ k' : S → Prop, (∀ s, I s → k' s) → f k') : joinD f k := hf k hk
theorem optD_of {α : Type} {o : Option α} {A : Prop} {B : α → Prop} (h0 : o = none → A) (h1 : ∀ x, o = some x → B x) : optD o A B := ⟨h0, h1⟩
end L2
set_option Elab.async false
set_option linter.all false
set_option maxRecDepth 100000
set_option maxHeartbeats 4000000
namespace L2
open PySem PySem.Spec PyProof.Rows PySem.HErr
open PySem.W (findIn isFn)
/-- the i-th of the lent places -/
def ad (as : List Addr) (i : Nat) : Addr := as.getD i 0
theorem permD {α : Type} (n : Nat) (Θ : List α) : Θ.Perm (Θ.drop n ++ Θ.take n) := by
  have := List.perm_append_comm (l₁ := Θ.take n) (l₂ := Θ.drop n)
  rwa [List.take_append_drop] at this
structure SrcIK (K : PySem.W.Frag) (C : Addr) (qual : Str) (st : Stmt) : Prop where
  ex : ∃ f fd, FunA K "__init__" qual st f fd ∧ Mk K C f
structure DefIK (P : Program) (w : World) (K : PySem.W.Frag) (mg : Str → Option Value) (base : Heap) (CX : CXT) (k : Nat) (C : Addr) (ps : List Str) (sp : Sp) : Prop where
  ex : ∃ f fd, LkF K f fd ∧ Mk K C f ∧ FnOk P w K mg base CX k f fd ps sp
section
variable {P : Program} {w : World} {K : PySem.W.Frag} {mg : Str → Option Value} {base : Heap} {CX : CXT} {qual : Str} {C : Addr} {st : Stmt} {N ps : List Str} {k : Nat} {sp : Sp} {pre : Pre} {ef : HE → Er}
theorem DefIK.mono {j : Nat} (D : DefIK P w K mg base CX j C ps sp) (h : j ≤ k) : DefIK P w K mg base CX k C ps sp := by
  obtain ⟨f, fd, hlk, h1, h3⟩ := D.ex
  exact ⟨f, fd, hlk, h1, h3.mono h⟩
theorem SrcIK.okX (F : SrcIK K C qual st) (S : FnScope N ps (defScope st)) (len : ∀ vs H Q E, sp vs H Q E → vs.length = ps.length)
    (hbody : ∀ (f : Addr) (cdv : Value) (A : Around) (outer : List Env) (s : Shared) (H : Hp) (vs : List V) (Q : VK) (E : XK), Room k (A.deeper (envOfC qual (defScope st) s.heap.objs.size f cdv)) → sp vs H Q E →
      ∃ t, PSs (cxOf (L2.CX P w) P w K mg base N qual (defScope st) f cdv A outer s H E) (defBody st) t ∧ t { nx := fun _ H' => Q .non H', rt := Q } (start N vs) H) : DefIK P w K mg base (L2.CX P w) (k + 1) C ps sp := by
  obtain ⟨f, fd, h1, h2⟩ := F.ex
  exact ⟨f, fd, h1.lk, h2, h1.okX S len (hbody f)⟩
theorem SrcIK.okAX (F : SrcIK K C qual st) (S : FnScope N ps (defScope st)) (len : ∀ qs out err, pre qs out err → qs.length + 1 = ps.length)
    (hbody : ∀ (f : Addr) (cdv : Value) (A : Around) (outer : List Env) (s : Shared) (H : Hp) (E : XK) (qs : List Vp) (out : Vp → Prop) (err : Er → Prop), Room k (A.deeper (envOfC qual (defScope st) s.heap.objs.size f cdv)) → pre qs out err →
      ∃ t, PSs (cxOf (L2.CX P w) P w K mg base N qual (defScope st) f cdv A outer s H E) (defBody st) t ∧ ∀ fr x dx (Q : L2.St → Hp → Prop) (rt : VK), (∀ p, out p → ∀ σ F H, (∃ Θ, OkF fr Θ F H) → p.p F (.ref x) → Q σ H) → (∀ p, out p → ∀ F H, (∃ Θ, OkF fr Θ F H) → p.p F (.ref x) → rt .non H) → Rse fr E err →
        Kn fr (envOf N (zAt x :: qs)) [cI x C dx []] (t { nx := Q, rt := rt })) : DefIK P w K mg base (L2.CX P w) (k + 1) C ps (spI C pre) := by
  refine F.okX S (fun vs H Q E h => ?_) (fun f cdv A outer s H vs Q E hr h => ?_)
  · obtain ⟨x, dx, vs', F, qs, out, err, rfl, _, _, _, h2, h3, _⟩ := h
    rw [List.length_cons, ← Paired.len h2]
    exact len _ _ _ h3
  · obtain ⟨x, dx, vs', F, qs, out, err, rfl, hx, fx, fh, h2, h3, h4, h5⟩ := h
    obtain ⟨t, ht, hk⟩ := hbody f cdv A outer s H E qs out err hr h3
    have post : ∀ {Θ : List Cel} {F' H' : Hp}, OkF ⟨F, minus H x, []⟩ Θ F' H' → Same (minus H x) H' ∧ Same F F' ∧ Same F' H' ∧ Newer F (minus H x) F' := fun ok => ⟨fun a o h => ok.h0 a o (by simp) h, ok.f0, ok.fh, ok.nw⟩
    have c1 : ∀ p, out p → ∀ (σ : L2.St) F' H', (∃ Θ, OkF ⟨F, minus H x, []⟩ Θ F' H') → p.p F' (.ref x) → Q .non H' := fun p hp σ F' H' ⟨Θ, ok⟩ hv => by
      obtain ⟨a, b, c, d⟩ := post ok
      exact h4 p hp F' H' a b c d hv
    have c2 : Rse ⟨F, minus H x, []⟩ E err := fun e he Θ F' H' d us ok hd hf => by
      obtain ⟨a, b, c, n⟩ := post ok
      exact h5 e he F' H' d us a b c n hd hf
    exact ⟨t, ht, hk ⟨F, minus H x, []⟩ x dx (fun _ H' => Q .non H') Q c1 (fun p hp F' H' => c1 p hp [] F' H') c2 _ F H (okf_init hx fx fh) (env_start (vs := .ref x :: vs') (.cons rfl h2))⟩
theorem SrcIK.okW {α β : Type} {args : α → List Vp} {md : α → DM β} {g : β → List (Str × Vp)} (F : SrcIK K C qual st) (S : FnScope N ps (defScope st)) (len : ∀ x, (args x).length + 1 = ps.length)
    (hbody : ∀ (f : Addr) (cdv : Value) (A : Around) (outer : List Env) (s : Shared) (H : Hp) (E : XK) (a : α) (Q : β → Prop) (X : HE → Prop), Room k (A.deeper (envOfC qual (defScope st) s.heap.objs.size f cdv)) → md a Q X →
      ∃ t, PSs (cxOf (L2.CX P w) P w K mg base N qual (defScope st) f cdv A outer s H E) (defBody st) t ∧ ∀ fr x dx (Qn : L2.St → Hp → Prop) (rt : VK), InitW fr x C g Qn Q → RseW fr E ef X → Kn fr (envOf N (zAt x :: args a)) [cI x C dx []] (t { nx := Qn, rt := rt })) : DefIK P w K mg base (L2.CX P w) (k + 1) C ps (spI C (preW ef args (zIn C g) md)) :=
  F.okAX S (fun qs out err ⟨a, Q, X, e, _⟩ => by rw [e]; exact len a) fun f cdv A outer s H E qs out err hr ⟨a, Q, X, e1, h, e2, e3⟩ => by
    subst e1 e2 e3
    obtain ⟨t, ht, hk⟩ := hbody f cdv A outer s H E a Q X hr h
    refine ⟨t, ht, fun fr x dx Qn rt hq hrt hrse => hk fr x dx Qn rt (fun y hy Γ Θ i dx' hi σ F' H' ok env => ?_) fun z hz Γ Θ => kr_E hrse ⟨z, hz, rfl⟩⟩
    obtain ⟨h1, ⟨o, h2, us, rfl, h4⟩, h5⟩ := ok.ce _ (List.mem_of_getElem? hi)
    have ok2 := ok.frz hi rfl h2
    have sF : Same F' (upd F' x (.ins C dx' us)) := same_upd h1
    exact hq _ ⟨y, hy, rfl⟩ σ _ H' ⟨_, ok2⟩ ⟨x, dx', us, rfl, upd_same, h4.mono sF⟩
end
end L2
set_option Elab.async false
set_option linter.all false
set_option maxRecDepth 100000
set_option maxHeartbeats 4000000
namespace L2
open PySem PySem.Spec PyProof.Rows PySem.HErr
section
variable {fr fr' : Fr} {Γ Γ' : Gam} {Θ Θ' Θl Θr : List Cel} {F F' H H' : Hp} {K : Vp → List Cel → Prop} {Qv : VK}
theorem sps_CP {pre : PreC} {E : L2.St → XK} {ps : List Vp} {out : Vp → List Cel → Prop} {err : Er → List Cel → Prop} (hp : pre ps Θl out err) (pm : Θ.Perm (Θl ++ Θr)) (k : ∀ p Θ', out p Θ' → ∃ Θ2, Θ2.Perm (Θ' ++ Θr) ∧ K p Θ2) (x : ∀ e Θ', err e Θ' → ∃ Θ2, Θ2.Perm (Θ' ++ Θr) ∧ Kr fr Γ Θ2 (fun cls d σ H => E σ cls d H) e) : Sps fr Γ Θ (spC pre) E ps K := fun σ F H vs ok env hps Q q => by
  have ok := ok.perm pm
  refine ⟨F, ps, Θl, out, err, ok.fh, ok.cellsAt, hps, hp, fun p Θ' ho v F' H' ef h => ?_, fun e Θ' he F' H' d us ef hd hf => ?_⟩
  · obtain ⟨Θ2, p2, kk⟩ := k p Θ' ho
    exact q p _ kk v F' H' ef.ff ((ok.eff ef).perm p2.symm) h
  · obtain ⟨Θ2, p2, kk⟩ := x e Θ' he
    exact kk σ F' H' ((ok.eff ef).perm p2.symm) (env.mono ef.ff) d us hd hf
theorem sps_LP {α β γ : Type} {ef : HE → Er} {args : List Addr → α → List Vp} {cin : List Addr → α → List Cel} {r : Rep β} {cout : List Addr → α → γ → List Cel} {m : α → DM (β × γ)} {E : L2.St → XK} {ps : List Vp} {Q : β × γ → Prop} {X : HE → Prop} (as : List Addr) (x : α) (T : γ → List Cel) (pm : Θ.Perm (cin as x ++ Θr)) (pm2 : ∀ g, (T g).Perm (cout as x g ++ Θr)) (h : m x Q X)
    (k : ∀ y : β × γ, Q y → K (iz r y.1) (T y.2)) (xx : ∀ z, X z → ∀ g, Kr fr Γ (T g) (fun cls d σ H => E σ cls d H) (ef z)) (e : ps = args as x := by rfl) : Sps fr Γ Θ (spC (preL ef args cin r cout m)) E ps K :=
  sps_CP ⟨as, x, Q, X, e, rfl, h, rfl, rfl⟩ pm (fun p Θ' ⟨y, g, hq, e1, e2⟩ => by subst e1 e2; exact ⟨T g, pm2 g, k (y, g) hq⟩) fun er Θ' ⟨z, g, hz, e1, e2⟩ => by subst e1 e2; exact ⟨T g, pm2 g, xx z hz g⟩
theorem sps_LP0 {α β γ : Type} {ef : HE → Er} {args : List Addr → α → List Vp} {cin : List Addr → α → List Cel} {r : Rep β} {cout : List Addr → α → γ → List Cel} {m : α → DM (β × γ)} {E : L2.St → XK} {ps : List Vp} {Q : β × γ → Prop} (as : List Addr) (x : α) (T : γ → List Cel) (pm : Θ.Perm (cin as x ++ Θr)) (pm2 : ∀ g, (T g).Perm (cout as x g ++ Θr)) (h : m x Q noX)
    (k : ∀ y : β × γ, Q y → K (iz r y.1) (T y.2)) (e : ps = args as x := by rfl) : Sps fr Γ Θ (spC (preL ef args cin r cout m)) E ps K := sps_LP as x T pm pm2 h k (fun z hz => hz.elim) e
end
end L2
set_option Elab.async false
set_option linter.all false
set_option maxRecDepth 100000
set_option maxHeartbeats 4000000
namespace L2
open PySem PySem.Spec PyProof.Rows PySem.HErr
/-- an address as a thing -/
def zR : Rep Addr := ⟨fun _ v a => v = .ref a, fun _ h => h⟩
/-- ghost rows of a dict of own lists: key, the list's place, what is in it -/
abbrev GR (α : Type) := List (List Int × Addr × List α)
def gK {α : Type} (g : GR α) : List (List Int × Addr) := g.map fun x => (x.1, x.2.1)
def gC {α : Type} (r : Rep α) (g : GR α) : List Cel := g.map fun x => cY x.2.1 r x.2.2
def GNd {α : Type} (g : GR α) : Prop := (g.map (·.1)).Nodup
end L2
set_option Elab.async false
set_option linter.all false
set_option maxRecDepth 100000
set_option maxHeartbeats 4000000
namespace L2
open PySem PySem.Spec PyProof.Rows PySem.HErr
section
variable {fr fr' : Fr} {Γ Γ' : Gam} {Θ Θ' : List Cel} {F F' H H' : Hp} {K : Vp → List Cel → Prop} {Qv : VK}
theorem kn_forG {wi : TI} {g : TG} {tb : TS} {D : Ends} {α S : Type} {r : Rep α} (G : S → Gam) (T : S → List Cel → Prop) (s0 : S)
    (w : Wi fr Γ Θ wi fun its Θ1 => ∃ (xs : List α) (body : α → S → (S → Prop) → (S → Prop) → Prop) (after : S → Prop) (vs : List Nat) (Γ2 : α → S → Gam), its = xs.map (iz r) ∧ T s0 Θ1 ∧ GLe Γ (G s0) ∧ (∀ x s, TgR g vs (iz r x) (G s) (Γ2 x s)) ∧ forD xs s0 body after ∧
      (∀ fr', FrLe fr fr' → ∀ x s nx M, (∀ s' Γ' Θ', nx s' → GLe Γ' (G s') → T s' Θ' → Kn fr' Γ' Θ' M) → (∀ s' Γ' Θ', after s' → GLe Γ' (G s') → T s' Θ' → Kn fr' Γ' Θ' D.nx) → body x s nx after → ∀ Θx, T s Θx → Kn fr' (Γ2 x s) Θx (tb { D with nx := M, ct := M, bk := D.nx })) ∧
      (∀ s, after s → ∀ Θx, T s Θx → Kn fr (G s) Θx D.nx)) : Kn fr Γ Θ (tFor wi g tb D) :=
  kn_for fun σ F H ok env R q => w σ F H ok env R fun its Θ1 ⟨xs, body, after, vs, Γ2, e1, e2, l0, tg, hf, hs, hd⟩ => q its Θ1 (by
    subst e1
    refine ⟨fun i Γ1 Θ2 => ∃ s, Γ1 = G s ∧ T s Θ2 ∧ forD (xs.drop i) s body after, ⟨G s0, l0, s0, rfl, e2, hf⟩, fun fr' le i p Γ1 Θ2 hi ⟨s, eg, et, h⟩ => ?_, fun Γ1 Θ2 ⟨s, eg, et, h⟩ => ?_⟩
    · subst eg
      obtain ⟨x, hx, rfl⟩ := get_izs hi
      rw [drop_at hx] at h
      exact ⟨vs, _, tg x s, hs fr' le x s _ _ (fun s' Γ' Θ' hn gl e => kn_mid ⟨G s', gl, s', rfl, e, hn⟩) (fun s' Γ' Θ' hn gl e => ((hd s' hn Θ' e).fine le).le gl) h Θ2 et⟩
    · subst eg
      rw [List.length_map, List.drop_length] at h
      exact hd s h Θ2 et)
theorem kn_cutG {t u : TS} {D : Ends} {S : Type} (G : S → Gam) (T : S → List Cel → Prop) {f : (S → Prop) → Prop} {k : S → Prop} (h : joinD f k)
    (hb : ∀ M, (∀ s' Γ' Θ', k s' → GLe Γ' (G s') → T s' Θ' → Kn fr Γ' Θ' M) → f k → Kn fr Γ Θ (t { D with nx := M })) (hr : ∀ s, k s → ∀ Θx, T s Θx → Kn fr (G s) Θx (u D)) : Kn fr Γ Θ (C8.tCut t u D) :=
  kn_cut (fun Γ Θ => ∃ s, Γ = G s ∧ T s Θ ∧ k s) (hb _ (fun s' Γ' Θ' hn gl e => kn_mid ⟨G s', gl, s', rfl, e, hn⟩) h) fun Γ Θ ⟨s, e1, e2, hk⟩ => by
    subst e1
    exact hr s hk Θ e2
theorem gK_set {α : Type} {g : GR α} {m : Nat} {k : List Int} {b : Addr} {v v' : List α} (h : g[m]? = some (k, b, v)) : gK (g.set m (k, b, v')) = gK g := by
  unfold gK
  rw [List.map_set]
  refine List.ext_getElem? fun j => ?_
  rw [List.getElem?_set, List.length_map]
  split
  · rename_i e
    subst e
    rw [List.getElem?_map, h]
    split
    · rfl
    · rename_i q
      exact absurd (List.getElem?_eq_some_iff.mp h).1 q
  · rfl
theorem GNd.set {α : Type} {g : GR α} {m : Nat} {k : List Int} {b : Addr} {v v' : List α} (n : GNd g) (h : g[m]? = some (k, b, v)) : GNd (g.set m (k, b, v')) := by
  have e : (g.set m (k, b, v')).map (·.1) = (gK (g.set m (k, b, v'))).map (·.1) := by unfold gK; rw [List.map_map]; rfl
  unfold GNd
  rw [e, gK_set h]
  unfold gK
  rw [List.map_map]
  exact n
theorem frz_all {α : Type} {r : Rep α} : ∀ {g : GR α} {L : List Cel} {F H : Hp}, OkF fr (L ++ gC r g) F H → ∃ F', Same F F' ∧ OkF fr L F' H ∧ ∀ x ∈ g, (iz (yL r) x.2.2).p F' (.ref x.2.1)
  | [], L, F, H, ok => ⟨F, Same.refl _, by simpa [gC] using ok, fun x hx => nomatch hx⟩
  | x :: g, L, F, H, ok => by
    have hj : (L ++ gC r (x :: g))[L.length]? = some (cY x.2.1 r x.2.2) := by
      rw [List.getElem?_append_right (Nat.le_refl _), Nat.sub_self]
      rfl
    obtain ⟨h0, ⟨o, h3, ⟨⟨vs, rfl, h5⟩, h6⟩⟩, _⟩ := ok.ce _ (List.mem_of_getElem? hj)
    have h3 : H x.2.1 = some (.lst vs) := h3
    have ok2 := ok.frz hj rfl h3
    have e : (L ++ gC r (x :: g)).eraseIdx L.length = L ++ gC r g := by
      rw [List.eraseIdx_append_of_length_le (Nat.le_refl _), Nat.sub_self]
      rfl
    rw [e] at ok2
    have s2 : Same F (upd F x.2.1 (.lst vs)) := same_upd h0
    obtain ⟨F', s3, ok3, hv⟩ := frz_all ok2
    refine ⟨F', s2.trans s3, ok3, fun y hy => ?_⟩
    rcases List.mem_cons.mp hy with rfl | hy
    · exact (iz (yL r) y.2.2).mono s3 ⟨⟨y.2.1, vs, rfl, upd_same, Paired.imp2 (fun _ _ h => r.mono s2 h) h5⟩, h6⟩
    · exact hv y hy
/-- a cell told otherwise -/
theorem OkF.retell {i : Nat} {c c' : Cel} {o : HO} (k : OkF fr Θ F H) (hi : Θ[i]? = some c) (ha : c'.a = c.a) (ho : c'.own = c.own) (h2 : H c.a = some o) (h : c'.φ F o) : OkF fr (Θ.set i c') F H := by
  have := k.mut hi ha ho h
  have e : upd H c.a o = H := by
    funext b
    by_cases q : b = c.a
    · rw [q, upd_same, h2]
    · exact upd_ne q
  rwa [e] at this
end
end L2
set_option Elab.async false
set_option linter.all false
set_option maxRecDepth 100000
set_option maxHeartbeats 4000000
namespace L2
open PySem PySem.Spec PyProof.Rows PySem.HErr
def RetNW {β : Type} (fr : Fr) (Qv : VK) (res : β → List Addr → Vp) (cel : β → List Addr → List Cel) (Q : β → Prop) : Prop := ∀ y as, Q y → ∀ Θ'' Θx, Θ''.Perm (cel y as ++ Θx) → Rt fr Θ'' Qv (res y as)
section
variable {fr fr' : Fr} {Γ Γ' : Gam} {Θ Θ' Θr : List Cel} {F F' H H' : Hp} {K : Vp → List Cel → Prop} {Qv : VK}
theorem RetNW.fine {β : Type} {res : β → List Addr → Vp} {cel : β → List Addr → List Cel} {Q : β → Prop} (h : RetNW fr Qv res cel Q) (l : FrLe fr fr') : RetNW fr' Qv res cel Q := fun y as hy Θ'' Θx pm => (h y as hy Θ'' Θx pm).fine l
/-- what may be known while the cells Θb are lent -/
def LendR (Θb : List Cel) (F Fl : Hp) : Prop := Same F Fl ∧ ∀ c ∈ Θb, ∃ o, Fl c.a = some o ∧ c.φ F o
/-- an own list, seen as a value -/
theorem LendR.lst {α : Type} {r : Rep α} {a : Addr} {xs : List α} {Fl : Hp} (h : LendR Θ F Fl) {j : Nat} (hj : Θ[j]? = some (cY a r xs)) {v : V} (hv : (iz zR a).p F v) : (iz (yL r) xs).p Fl v := by
  obtain ⟨o, h2, ⟨⟨vs, rfl, h4⟩, h5⟩⟩ := h.2 _ (List.mem_of_getElem? hj)
  have hv : v = .ref a := hv
  subst hv
  exact ⟨⟨a, vs, rfl, h2, Paired.imp2 (fun _ _ q => r.mono h.1 q) h4⟩, h5⟩
end
end L2
set_option Elab.async false
set_option linter.all false
set_option maxRecDepth 100000
set_option maxHeartbeats 4000000
namespace L2
open PySem PySem.Spec PyProof.Rows PySem.HErr
end L2
set_option Elab.async false
set_option linter.all false
set_option maxRecDepth 100000
set_option maxHeartbeats 4000000
namespace L2
open PySem PySem.Spec PyProof.Rows PySem.HErr
end L2
set_option Elab.async false
set_option linter.all false
set_option maxRecDepth 100000
set_option maxHeartbeats 4000000
namespace L2
open PySem PySem.Spec PyProof.Rows PySem.HErr
/-- a loop that looks for the first thing that something comes of -/
theorem forD_some {α β : Type} {body : α → Unit → (Unit → Prop) → (Unit → Prop) → Prop} {after : Unit → Prop} {f : α → Option β} {R : β → Prop} : ∀ {xs : List α}, (∀ x ∈ xs, ∀ nx : Unit → Prop, (∀ y, f x = some y → R y) → (f x = none → nx ()) → body x () nx after) →
    (∀ y, xs.findSome? f = some y → R y) → (xs.findSome? f = none → after ()) → forD xs () body after
  | [], _, _, h => h rfl
  | x :: xs, hb, hf, hn => by
    refine hb x (List.mem_cons_self ..) _ (fun y hy => hf y ?_) fun h => forD_some (fun y hy => hb y (List.mem_cons_of_mem _ hy)) (fun y hy => hf y ?_) (fun h2 => hn ?_)
    · rw [List.findSome?_cons, hy]
    · rw [List.findSome?_cons, h]; exact hy
    · rw [List.findSome?_cons, h]; exact h2
end L2
set_option Elab.async false
set_option linter.all false
set_option maxRecDepth 100000
set_option maxHeartbeats 4000000
namespace L2
open PySem PySem.Spec PyProof.Rows PySem.HErr
open PySem.W (findIn isFn)
end L2
set_option Elab.async false
set_option linter.all false
set_option maxRecDepth 100000
set_option maxHeartbeats 4000000
namespace L2
open PySem PySem.Spec PyProof.Rows PySem.HErr
instance {α β : Type} {r : Rep α} {s : Rep β} [d : XDat r] [e : XDat s] : XDat (yU r s) := ⟨fun x => match x with | .inl a => d.enc a | .inr b => e.enc b, max d.dep e.dep, fun {F v x} h => by
  cases x with
  | inl a => exact ⟨(d.xd h).1, Nat.le_trans (d.xd h).2 (Nat.le_max_left _ _)⟩
  | inr b => exact ⟨(e.xd h).1, Nat.le_trans (e.xd h).2 (Nat.le_max_right _ _)⟩⟩
instance {α β : Type} {r : Rep α} {s : Rep β} [d : NotNon r] [e : NotNon s] : NotNon (yU r s) := ⟨fun F v x h => by
  cases x with
  | inl a => exact d.nn F v a h
  | inr b => exact e.nn F v b h⟩
end L2
set_option Elab.async false
set_option linter.all false
set_option maxRecDepth 100000
set_option maxHeartbeats 4000000
namespace L2
open PySem PySem.Spec PyProof.Rows PySem.HErr
class EDat {α : Type} (r : Rep α) where
  enc : α → PyData
  dep : Nat
  dp : ∀ {Kf : PySem.W.Frag} {F : Hp} {v : V} {x : α}, r.p F v x → Dp Kf F v (enc x)
  cl : ∀ {F : Hp} {v : V} {x : α}, r.p F v x → (enc x).canLay0 = true
  dl : ∀ {F : Hp} {v : V} {x : α}, r.p F v x → (enc x).depth ≤ dep
instance (priority := low) edX {α : Type} {r : Rep α} [d : XDat r] : EDat r := ⟨d.enc, d.dep, fun {Kf F v x} h => (xp_dp (Kf := Kf) _ _ (d.xd h).1).1, fun {F v x} h => lay_nb _ (xp_dp (Kf := []) _ _ (d.xd h).1).2, fun h => (d.xd h).2⟩
instance edB : EDat zB := ⟨PyData.bool, 0, fun h => by cases (show _ = V.bl _ from h); exact .bl _, fun _ => by simp only [PyData.canLay0], fun _ => by simp [PyData.depth]⟩
instance edN : EDat yN := ⟨fun _ => PyData.none, 0, fun h => by cases (show _ = V.non from h); exact .non, fun _ => by simp only [PyData.canLay0], fun _ => by simp [PyData.depth]⟩
instance ed2 {α β : Type} {r : Rep α} {s : Rep β} [d : EDat r] [e : EDat s] : EDat (z2 r s) := ⟨fun x => .tuple [d.enc x.1, e.enc x.2], max d.dep e.dep + 1, fun ⟨a, v1, v2, h1, h2, h3, h4⟩ => by subst h1; exact .tup (SqT.of h2) (.cons (d.dp h3) (.cons (e.dp h4) .nil)),
  fun ⟨a, v1, v2, h1, h2, h3, h4⟩ => by simp only [PyData.canLay0, PyData.canLayAll0, d.cl h3, e.cl h4, Bool.and_self],
  fun ⟨a, v1, v2, h1, h2, h3, h4⟩ => by
    have := d.dl h3
    have := e.dl h4
    simp only [PyData.depth, PyData.depthAll]
    omega⟩
instance ed3 {α β γ : Type} {r : Rep α} {s : Rep β} {t : Rep γ} [d : EDat r] [e : EDat s] [f : EDat t] : EDat (z3 r s t) := ⟨fun x => .tuple [d.enc x.1, e.enc x.2.1, f.enc x.2.2], max d.dep (max e.dep f.dep) + 1, fun ⟨a, v1, v2, v3, h1, h2, h3, h4, h5⟩ => by subst h1; exact .tup (SqT.of h2) (.cons (d.dp h3) (.cons (e.dp h4) (.cons (f.dp h5) .nil))),
  fun ⟨a, v1, v2, v3, h1, h2, h3, h4, h5⟩ => by simp only [PyData.canLay0, PyData.canLayAll0, d.cl h3, e.cl h4, f.cl h5, Bool.and_self],
  fun ⟨a, v1, v2, v3, h1, h2, h3, h4, h5⟩ => by
    have := d.dl h3
    have := e.dl h4
    have := f.dl h5
    simp only [PyData.depth, PyData.depthAll]
    omega⟩
instance edO {α : Type} {r : Rep α} [d : EDat r] : EDat (yO r) := ⟨fun x => match x with | none => .none | some y => d.enc y, d.dep, fun {Kf F v x} h => by
    cases x with
    | none => cases (show v = V.non from h); exact .non
    | some y => exact d.dp h,
  fun {F v x} h => by
    cases x with
    | none => simp only [PyData.canLay0]
    | some y => exact d.cl h,
  fun {F v x} h => by
    cases x with
    | none => simp [PyData.depth]
    | some y => exact d.dl h⟩
instance edU {α β : Type} {r : Rep α} {s : Rep β} [d : EDat r] [e : EDat s] : EDat (yU r s) := ⟨fun x => match x with | .inl a => d.enc a | .inr b => e.enc b, max d.dep e.dep, fun {Kf F v x} h => by
    cases x with
    | inl a => exact d.dp h
    | inr b => exact e.dp h,
  fun {F v x} h => by
    cases x with
    | inl a => exact d.cl h
    | inr b => exact e.cl h,
  fun {F v x} h => by
    cases x with
    | inl a => exact Nat.le_trans (d.dl h) (Nat.le_max_left ..)
    | inr b => exact Nat.le_trans (e.dl h) (Nat.le_max_right ..)⟩
section
variable {fr : Fr} {Γ : Gam} {Θ : List Cel} {F H : Hp} {K : Vp → List Cel → Prop}
theorem sh_lay {d : PyData} (h : d.canLay0 = true) (hd : d.depth ≤ 64) : SeqAt.shaped d = true := by
  unfold SeqAt.shaped
  rw [h, decide_eq_true hd]
  rfl
theorem oy_eqEE {Kf : PySem.W.Frag} {α β : Type} {r : Rep α} {s : Rep β} [d : EDat r] [e : EDat s] {x : α} {y : β} (hd : d.dep ≤ 64) (he : e.dep ≤ 64) (k : K (iz zB (PyData.eqv (d.enc x) (e.enc y))) Θ) : Ops fr Θ (rEqD Kf) (iz r x) (iz s y) K := fun F H v w ok hv hw Q q =>
  ⟨_, _, (d.dp hv).up ok.fh, (e.dp hw).up ok.fh, sh_lay (d.cl hv) (Nat.le_trans (d.dl hv) hd), sh_lay (e.cl hw) (Nat.le_trans (e.dl hw) he), q.go k ok rfl⟩
theorem oy_neEE {Kf : PySem.W.Frag} {α β : Type} {r : Rep α} {s : Rep β} [d : EDat r] [e : EDat s] {x : α} {y : β} (hd : d.dep ≤ 64) (he : e.dep ≤ 64) (k : K (iz zB (!PyData.eqv (d.enc x) (e.enc y))) Θ) : Ops fr Θ (rNeD Kf) (iz r x) (iz s y) K := fun F H v w ok hv hw Q q =>
  ⟨_, _, (d.dp hv).up ok.fh, (e.dp hw).up ok.fh, sh_lay (d.cl hv) (Nat.le_trans (d.dl hv) hd), sh_lay (e.cl hw) (Nat.le_trans (e.dl hw) he), q.go k ok rfl⟩
end
end L2
set_option Elab.async false
set_option linter.all false
set_option maxRecDepth 100000
set_option maxHeartbeats 4000000
namespace L2
open PySem PySem.Spec PyProof.Rows PySem.HErr
def yAny : Rep Unit := ⟨fun _ _ _ => True, fun _ h => h⟩
theorem sp_2 {fr : Fr} {Θ : List Cel} {α β : Type} {r : Rep α} {s : Rep β} {x : α × β} : SeqY fr Θ (iz (z2 r s) x) yAny [(), ()] := ⟨fun F H v ok ⟨a, u, w, h1, h2, h3, h4⟩ => ⟨a, [u, w], h1, .inr (.inl (ok.fh _ _ h2)), .cons trivial (.cons trivial .nil)⟩, fun _ _ _ _ _ => by show 2 ≤ big; decide⟩
instance {α β : Type} {r : Rep α} {s : Rep β} [d : XDat r] [e : XDat s] [b : XBack r] [c : XBack s] [m : XNoS s] : XBack (z2 r s) := ⟨fun {F v x} h hd => by
  simp only [XDat.enc, xp] at h
  obtain ⟨a, vs, h1, h2, h3, h4⟩ := h
  simp only [xpAll] at h4
  obtain ⟨v1, r1, rfl, h5, v2, r2, rfl, h6, rfl⟩ := h4
  simp only [XDat.enc, PyData.depth, PyData.depthAll] at hd
  exact ⟨a, v1, v2, h1, h2.nar (by rw [isSDs_no (List.mem_cons_of_mem _ (List.mem_cons_self ..)) (m.ns x.2)]; rfl), b.bk h5 (by omega), c.bk h6 (by omega)⟩⟩
instance {α β : Type} {r : Rep α} {s : Rep β} [d : XDat r] [e : XDat s] [b : XBack r] [c : XBack s] [n : XNoS r] : XBack (z2 r s) := ⟨fun {F v x} h hd => by
  simp only [XDat.enc, xp] at h
  obtain ⟨a, vs, h1, h2, h3, h4⟩ := h
  simp only [xpAll] at h4
  obtain ⟨v1, r1, rfl, h5, v2, r2, rfl, h6, rfl⟩ := h4
  simp only [XDat.enc, PyData.depth, PyData.depthAll] at hd
  exact ⟨a, v1, v2, h1, h2.nar (by rw [isSDs_no (List.mem_cons_self ..) (n.ns x.1)]; rfl), b.bk h5 (by omega), c.bk h6 (by omega)⟩⟩
end L2
set_option Elab.async false
set_option linter.all false
set_option maxRecDepth 100000
set_option maxHeartbeats 4000000
namespace L2
open PySem PySem.Spec PyProof.Rows PySem.HErr
/-- the classmethod m of the class at C stands in its def -/
structure SrcC (K : PySem.W.Frag) (C : Addr) (m qual : Str) (st : Stmt) (ps : List Str) : Prop where
  ex : ∃ p f fd, FunA K m qual st f fd ∧ ClX.CRead K C (.type "type") ∧ ClX.CMet K C (.type "type") m p f ∧ Binds K fd ps []
structure DefC (P : Program) (w : World) (K : PySem.W.Frag) (mg : Str → Option Value) (base : Heap) (CX : CXT) (k : Nat) (C : Addr) (m : Str) (ps : List Str) (sp : Sp) : Prop where
  ex : ∃ p f fd, LkF K f fd ∧ ClX.CRead K C (.type "type") ∧ ClX.CMet K C (.type "type") m p f ∧ Binds K fd ps [] ∧ FnOk P w K mg base CX k f fd ps sp
section
variable {P : Program} {w : World} {K : PySem.W.Frag} {mg : Str → Option Value} {base : Heap} {CX : CXT} {m qual : Str} {C : Addr} {st : Stmt} {N ps : List Str} {k j : Nat} {sp : Sp}
theorem DefC.mono (D : DefC P w K mg base CX j C m ps sp) (h : j ≤ k) : DefC P w K mg base CX k C m ps sp := by
  obtain ⟨p, f, fd, h1, h2, h3, h4, h5⟩ := D.ex
  exact ⟨p, f, fd, h1, h2, h3, h4, h5.mono h⟩
theorem SrcC.okX (F : SrcC K C m qual st ps) (S : FnScope N ps (defScope st)) (len : ∀ vs H Q E, sp vs H Q E → vs.length = ps.length)
    (hbody : ∀ (f : Addr) (cdv : Value) (A : Around) (outer : List Env) (s : Shared) (H : Hp) (vs : List V) (Q : VK) (E : XK), Room k (A.deeper (envOfC qual (defScope st) s.heap.objs.size f cdv)) → sp vs H Q E →
      ∃ t, PSs (cxOf (L2.CX P w) P w K mg base N qual (defScope st) f cdv A outer s H E) (defBody st) t ∧ t { nx := fun _ H' => Q .non H', rt := Q } (start N vs) H) : DefC P w K mg base (L2.CX P w) (k + 1) C m ps sp := by
  obtain ⟨p, f, fd, h1, h2, h3, h4⟩ := F.ex
  exact ⟨p, f, fd, h1.lk, h2, h3, h4, h1.okX S len (hbody f)⟩
theorem SrcC.okAX {pre : Pre} (F : SrcC K C m qual st ps) (S : FnScope N ps (defScope st)) (len : ∀ qs out err, pre qs out err → qs.length = ps.length)
    (hbody : ∀ (f : Addr) (cdv : Value) (A : Around) (outer : List Env) (s : Shared) (H : Hp) (E : XK) (qs : List Vp) (out : Vp → Prop) (err : Er → Prop), Room k (A.deeper (envOfC qual (defScope st) s.heap.objs.size f cdv)) → pre qs out err →
      ∃ t, PSs (cxOf (L2.CX P w) P w K mg base N qual (defScope st) f cdv A outer s H E) (defBody st) t ∧ ∀ fr Q, Ret fr Q out → Rse fr E err → Kn fr (envOf N qs) [] (t { nx := fun _ H' => Q .non H', rt := Q })) : DefC P w K mg base (L2.CX P w) (k + 1) C m ps (spA pre) := by
  refine F.okX S (fun vs H Q E h => ?_) (fun f cdv A outer s H vs Q E hr h => ?_)
  · obtain ⟨F, qs, out, err, _, h2, h3, _⟩ := h
    rw [← Paired.len h2]
    exact len _ _ _ h3
  · obtain ⟨F, qs, out, err, h1, h2, h3, h4, h5⟩ := h
    obtain ⟨t, ht, hk⟩ := hbody f cdv A outer s H E qs out err hr h3
    exact ⟨t, ht, hk _ Q h4.ret h5.rse _ F H (OkF.start h1) (env_start h2)⟩
theorem SrcC.okWX {α β : Type} {ef : HE → Er} {args : α → List Vp} {r : Rep β} {md : α → DM β} (F : SrcC K C m qual st ps) (S : FnScope N ps (defScope st)) (len : ∀ x, (args x).length = ps.length)
    (hbody : ∀ (f : Addr) (cdv : Value) (A : Around) (outer : List Env) (s : Shared) (H : Hp) (E : XK) (a : α) (Q : β → Prop) (X : HE → Prop), Room k (A.deeper (envOfC qual (defScope st) s.heap.objs.size f cdv)) → md a Q X →
      ∃ t, PSs (cxOf (L2.CX P w) P w K mg base N qual (defScope st) f cdv A outer s H E) (defBody st) t ∧ ∀ fr Qv, RetW fr Qv r Q → RseW fr E ef X → Kn fr (envOf N (args a)) [] (t { nx := fun _ H' => Qv .non H', rt := Qv })) : DefC P w K mg base (L2.CX P w) (k + 1) C m ps (spA (preW ef args r md)) :=
  F.okAX S (fun qs out err ⟨a, Q, X, e, _⟩ => by rw [e]; exact len a) fun f cdv A outer s H E qs out err hr ⟨a, Q, X, e1, h, e2, e3⟩ => by
    subst e1 e2 e3
    obtain ⟨t, ht, hk⟩ := hbody f cdv A outer s H E a Q X hr h
    exact ⟨t, ht, fun fr Qv hret hrse => hk fr Qv (fun y hy Θ => hret _ ⟨y, hy, rfl⟩ Θ) fun z hz Γ Θ => kr_E hrse ⟨z, hz, rfl⟩⟩
end
section
variable {fr : Fr} {Γ : Gam} {Θ : List Cel} {F H : Hp} {K : Vp → List Cel → Prop}
/-- [x] * n, one's own -/
theorem oy_repO {α : Type} {r : Rep α} {x : α} {n : Int} (h0 : -1000000 ≤ n) (h1 : n ≤ big) (k : ∀ a, K (zAt a) (cY a r (List.replicate n.toNat x) :: Θ)) : Ops fr Θ rRep (iz (yL r) [x]) (iz zI n) K := fun F H v w ok hv hw Q q => by
  obtain ⟨⟨a, vs, rfl, h2, h3⟩, _⟩ := hv
  have hw : w = .int n := hw
  subst hw
  have hb : (big : Int) = 100000 := rfl
  have hb2 : big = 100000 := rfl
  have h4 := flat_pvs h3 n.toNat
  rw [flat_one] at h4
  exact ⟨a, n, vs, rfl, rfl, ok.fh _ _ h2, by omega, by omega, big_line (by rw [Paired.len h3]; show 1 * n.toNat ≤ big; omega), fun l nl => q (zAt l) _ (k l) _ F _ (Same.refl F) (ok.mkOwn (c := cY l r (List.replicate n.toNat x)) nl rfl ⟨⟨_, rfl, h4⟩, by rw [List.length_replicate]; omega⟩) rfl⟩
end
end L2
set_option Elab.async false
set_option linter.all false
set_option maxRecDepth 100000
set_option maxHeartbeats 4000000
namespace L2
open PySem PySem.Spec PyProof.Rows PySem.HErr
end L2
set_option Elab.async false
set_option linter.all false
set_option maxRecDepth 100000
set_option maxHeartbeats 4000000
namespace L2
open PySem PySem.Spec PyProof.Rows PySem.HErr
end L2
set_option Elab.async false
set_option linter.all false
set_option maxRecDepth 100000
set_option maxHeartbeats 4000000
namespace L2
open PySem PySem.Spec PyProof.Rows PySem.HErr
def gsm (n : Nat) (g : Nat → Int) : Int := ((List.range n).map g).sum
def dot (n : Nat) (y : Nat → Int) (s : List Int) : Int := gsm n fun j => y j * s.getD j 0
def Reach (tab : List TRw) (s z : List Int) : Prop := ∃ zs, runF tab s zs = some z
theorem Reach.refl {tab : List TRw} {s : List Int} : Reach tab s s := ⟨[], rfl⟩
theorem Reach.trans {tab : List TRw} {a b c : List Int} (h : Reach tab a b) (g : Reach tab b c) : Reach tab a c := by
  obtain ⟨zs, h⟩ := h
  obtain ⟨ys, g⟩ := g
  exact ⟨zs ++ ys, by rw [runF_app, h]; exact g⟩
theorem Reach.keep {n : Nat} {tab : List TRw} (tk : TabOk n tab) {s z : List Int} (hs : s.length = n) (hn : NonN s) (h : Reach tab s z) : z.length = n ∧ NonN z := by
  obtain ⟨zs, h⟩ := h
  exact runF_keep tk zs hs hn h
end L2
set_option Elab.async false
set_option linter.all false
set_option maxRecDepth 100000
set_option maxHeartbeats 4000000
namespace L2
open PySem PySem.Spec PyProof.Rows PySem.HErr
section
variable {fr : Fr} {Γ : Gam} {Θ : List Cel} {K : Vp → List Cel → Prop}
theorem kn_nrm {Γ' : Gam} {M : L2.St → Hp → Prop} (e : Γ = Γ') (k : Kn fr Γ' Θ M) : Kn fr Γ Θ M := e ▸ k
end
end L2
set_option Elab.async false
set_option linter.all false
set_option maxRecDepth 100000
set_option maxHeartbeats 4000000
namespace L2
open PySem PySem.Spec PyProof.Rows PySem.HErr
section
variable {fr : Fr} {Γ : Gam} {Θ : List Cel} {K : Vp → List Cel → Prop}
theorem wi_zipL {Kf : PySem.W.Frag} {ta : TA} {K : List Vp → List Cel → Prop} (w : Wa fr Γ Θ ta fun ps Θ1 => ∃ (α β : Type) (r : Rep α) (s : Rep β) (xs : List α) (ys : List β), ps = [iz (yL r) xs, iz (yL s) ys] ∧ ((xs.zip ys).length ≤ big → K ((xs.zip ys).map (iz (z2 r s))) Θ1)) : Wi fr Γ Θ (RZ.iZipA Kf ta) K := fun σ F H ok env R q =>
  w σ F H ok env _ fun ps Θ1 ⟨α, β, r, s, xs, ys, e, k⟩ vs F1 H1 s1 ok1 hps => by
    subst e
    cases hps with
    | cons h1 hp => cases hp with
      | cons h2 hp => cases hp with
        | nil =>
          obtain ⟨⟨a, us, rfl, a2, a3⟩, a4⟩ := h1
          obtain ⟨⟨b, ws, rfl, b2, b3⟩, b4⟩ := h2
          have hk := k (by rw [List.length_zip]; omega)
          refine ⟨a, b, us, ws, rfl, .inl ⟨SqL.of (ok1.fh _ _ a2), SqL.of (ok1.fh _ _ b2), q _ Θ1 hk _ F1 H1 s1 ok1 fun F2 H2 s2 fh => ?_⟩⟩
          have qa : SqL Kf H2 a us := SqL.of (fh _ _ (s2 _ _ a2))
          have qb : SqL Kf H2 b ws := SqL.of (fh _ _ (s2 _ _ b2))
          refine ⟨fun i p hi => ?_, ?_⟩
          · obtain ⟨z, hz, rfl⟩ := get_izs hi
            obtain ⟨z1, z2⟩ := get_zip hz
            obtain ⟨u, hu, hux⟩ := Paired.get' a3 z1
            obtain ⟨v, hv, hvx⟩ := Paired.get' b3 z2
            refine ⟨⟨us, ws, u, v, qa, qb, hu, hv⟩, fun x H3 ⟨T, x1, y1, e1, e2, e3, e4, e5⟩ => ?_⟩
            subst e1 e3
            have e4 := e4 us qa
            have e5 := e5 ws qb
            rw [hu] at e4
            rw [hv] at e5
            cases e4
            cases e5
            have nF : F2 T = none := fh.free e2
            have sF : Same F2 (upd F2 T (.tup [u, v])) := same_upd nF
            refine ⟨upd F2 T (.tup [u, v]), sF, same_upd e2, fun c o hc => ?_, fun c o hc => ?_, ⟨T, u, v, rfl, upd_same, r.mono (s2.trans sF) hux, s.mono (s2.trans sF) hvx⟩⟩
            · by_cases q : c = T
              · subst q
                rw [upd_same] at hc ⊢
                exact hc
              · rw [upd_ne q] at hc ⊢
                exact fh _ _ hc
            · by_cases q : c = T
              · subst q
                exact .inr (.inl e2)
              · rw [upd_ne q] at hc
                exact .inl ⟨o, hc⟩
          · rw [List.length_map, List.length_zip]
            refine ⟨us, ws, qa, qb, ?_⟩
            rw [Paired.len a3, Paired.len b3]
            omega
end
end L2
set_option Elab.async false
set_option linter.all false
set_option maxRecDepth 100000
set_option maxHeartbeats 4000000
namespace L2
open PySem PySem.Spec PyProof.Rows PySem.HErr
section
variable {fr : Fr} {Γ : Gam} {Θ : List Cel} {K : Vp → List Cel → Prop}
theorem kn_swapY {Kf : PySem.W.Frag} {α : Type} {r : Rep α} {xs : List α} {a : Addr} {i j : Nat} {te t1 t2 : TE} {D : Ends} (hi : Γ[i]? = some (some (zAt a)))
    (w : We fr Γ Θ te fun p Θ1 => ∃ x y : α, p = iz (z2 r r) (x, y) ∧ We fr Γ Θ1 t1 fun q1 Θ2 => ∃ (n1 : Int) (m1 : Nat), q1 = iz zI n1 ∧ Θ2[j]? = some (cY a r xs) ∧ ixN xs.length n1 = some m1 ∧ We fr Γ (Θ2.set j (cY a r (xs.set m1 x))) t2 fun q2 Θ3 => ∃ (n2 : Int) (m2 : Nat), q2 = iz zI n2 ∧ Θ3[j]? = some (cY a r (xs.set m1 x)) ∧ ixN xs.length n2 = some m2 ∧ Kn fr Γ (Θ3.set j (cY a r ((xs.set m1 x).set m2 y))) D.nx) :
    Kn fr Γ Θ (tAsg te (gTup Kf 2 (gCons (gSub (tVar i) t1 rSetL) (gCons (gSub (tVar i) t2 rSetL) gNil))) D) := fun σ F H ok env =>
  w σ F H ok env _ fun p Θ1 ⟨x, y, e, k⟩ v F1 H1 s1 ok1 hp => by
    subst e
    obtain ⟨v0, h1, h2⟩ := (env.mono s1).get hi
    have h2 : v0 = .ref a := h2
    subst h2
    obtain ⟨b, u, v2, rfl, g2, g3, g4⟩ := hp
    refine ⟨b, _, rfl, SqT.of (ok1.fh _ _ g2), rfl, u, _, rfl, ⟨_, h1, k σ F1 H1 ok1 (env.mono s1) _ fun q1 Θ2 ⟨n1, m1, e1, hj, hm, k2⟩ w2 F2 H2 s2 ok2 hp2 => ?_⟩⟩
    subst e1
    obtain ⟨_, ⟨o, h3, ⟨⟨us, rfl, h4⟩, h5⟩⟩, _⟩ := ok2.ce _ (List.mem_of_getElem? hj)
    have ok3 := ok2.mut (c' := cY a r (xs.set m1 x)) (o := .lst (us.set m1 u)) hj rfl rfl ⟨⟨_, rfl, Paired.set (r.mono s2 g3) m1 h4⟩, by rw [List.length_set]; exact h5⟩
    refine ⟨a, us, n1, m1, rfl, hp2, h3, by rw [Paired.len h4]; exact hm, v2, _, rfl, ⟨_, h1, k2 σ F2 _ ok3 ((env.mono s1).mono s2) _ fun q2 Θ3 ⟨n2, m2, e2, hj2, hm2, k3⟩ w3 F3 H3 s3 ok4 hp3 => ?_⟩⟩
    subst e2
    obtain ⟨_, ⟨o2, h6, ⟨⟨us2, rfl, h7⟩, h8⟩⟩, _⟩ := ok4.ce _ (List.mem_of_getElem? hj2)
    have ok5 := ok4.mut (c' := cY a r ((xs.set m1 x).set m2 y)) (o := .lst (us2.set m2 v2)) hj2 rfl rfl ⟨⟨_, rfl, Paired.set (r.mono (s2.trans s3) g4) m2 h7⟩, by rw [List.length_set]; exact h8⟩
    exact ⟨a, us2, n2, m2, rfl, hp3, h6, by rw [Paired.len h7, List.length_set]; exact hm2, rfl, k3 σ F3 _ ok5 (((env.mono s1).mono s2).mono s3)⟩
def enL {α : Type} (xs : List α) : List (Int × α) := xs.zipIdx.map fun p => (((p.2 : Nat) : Int), p.1)
theorem enL_get {α : Type} {xs : List α} {i : Nat} : (enL xs)[i]? = xs[i]?.map fun x => ((i : Int), x) := by
  unfold enL
  rw [List.getElem?_map, List.getElem?_zipIdx]
  cases xs[i]? with
  | none => rfl
  | some x => show some (((0 + i : Nat) : Int), x) = some _; rw [Nat.zero_add]
theorem enL_len {α : Type} {xs : List α} : (enL xs).length = xs.length := by unfold enL; rw [List.length_map, List.length_zipIdx]
theorem wi_enumL {Kf : PySem.W.Frag} {ta : TA} {K : List Vp → List Cel → Prop} (w : Wa fr Γ Θ ta fun ps Θ1 => ∃ (α : Type) (r : Rep α) (xs : List α), ps = [iz (yL r) xs] ∧ ((enL xs).length ≤ big → K ((enL xs).map (iz (z2 zI r))) Θ1)) : Wi fr Γ Θ (iEnum Kf ta) K := fun σ F H ok env R q =>
  w σ F H ok env _ fun ps Θ1 ⟨α, r, xs, e, k⟩ vs F1 H1 s1 ok1 hps => by
    subst e
    cases hps with
    | cons h1 hp => cases hp with
      | nil =>
        obtain ⟨⟨a, us, rfl, a2, a3⟩, a4⟩ := h1
        have hk := k (by rw [enL_len]; exact a4)
        refine ⟨a, us, rfl, SqL.of (ok1.fh _ _ a2), q _ Θ1 hk _ F1 H1 s1 ok1 fun F2 H2 s2 fh => ?_⟩
        have qa : SqL Kf H2 a us := SqL.of (fh _ _ (s2 _ _ a2))
        refine ⟨fun i p hi => ?_, ?_⟩
        · obtain ⟨z, hz, rfl⟩ := get_izs hi
          rw [enL_get] at hz
          obtain ⟨x0, z1, rfl⟩ := Option.map_eq_some_iff.mp hz
          obtain ⟨u, hu, hux⟩ := Paired.get' a3 z1
          refine ⟨⟨us, u, qa, hu⟩, fun x H3 ⟨T, x1, e1, e2, e3, e4⟩ => ?_⟩
          subst e1 e3
          have e4 := e4 us qa
          rw [hu] at e4
          cases e4
          have nF : F2 T = none := fh.free e2
          have sF : Same F2 (upd F2 T (.tup [.int (i : Nat), u])) := same_upd nF
          refine ⟨upd F2 T (.tup [.int (i : Nat), u]), sF, same_upd e2, fun c o hc => ?_, fun c o hc => ?_, ⟨T, .int (i : Nat), u, rfl, upd_same, rfl, r.mono (s2.trans sF) hux⟩⟩
          · by_cases q : c = T
            · subst q
              rw [upd_same] at hc ⊢
              exact hc
            · rw [upd_ne q] at hc ⊢
              exact fh _ _ hc
          · by_cases q : c = T
            · subst q
              exact .inr (.inl e2)
            · rw [upd_ne q] at hc
              exact .inl ⟨o, hc⟩
        · rw [List.length_map, enL_len]
          exact ⟨us, qa, by rw [Paired.len a3]; exact Nat.le_refl _⟩
end
section
variable {X : Cx} {K : PySem.W.Frag} {e : Expr} {es : List Expr} {te : TE} {t : TA} {p : Pos}
theorem kpa_star (he : PE X e te) (hr : PA X es t) (hs : starEach (.Starred e p :: es) X.env = (true, eval e X.env) :: starEach es X.env := by rfl) (hK : X.K = K := by rfl) : PA X (.Starred e p :: es) (StX.tStar K te t) := hK ▸ StX.pa_star he hr hs
end
section
variable {fr : Fr} {Γ : Gam} {Θ : List Cel}
theorem kn_recast {i : Nat} {p q : Vp} {P : L2.St → Hp → Prop} (hi : Γ[i]? = some (some p)) (hl : p.Le q) (k : Kn fr (Γ.set i (some q)) Θ P) : Kn fr Γ Θ P := fun σ F H ok env => by
  obtain ⟨v, h1, h2⟩ := env.get hi
  have := env.set (i := i) (p := q) (v := v) (hl F v h2)
  rw [set_same h1] at this
  exact k σ F H ok this
theorem le_nil2 {α β γ : Type} {r : Rep α} {s : Rep β} {t : Rep γ} {x : α × List β} (e : x.2 = []) : (iz (z2 r (yL s)) x).Le (iz (z2 r (yL t)) (x.1, [])) := fun F v ⟨a, u, w, h1, h2, h3, ⟨b, us, g1, g2, g3⟩, g4⟩ => by
  rw [e] at g3
  cases g3
  exact ⟨a, u, w, h1, h2, h3, ⟨b, [], g1, g2, .nil⟩, Nat.zero_le _⟩
end
end L2
set_option Elab.async false
set_option linter.all false
set_option maxRecDepth 100000
set_option maxHeartbeats 4000000
namespace L2
open PySem PySem.Spec PyProof.Rows PySem.HErr
open TL
/-- C.m is a staticmethod: its record at p, its def at g -/
structure SMet (K : PySem.W.Frag) (C : Addr) (m : Str) (p g : Addr) : Prop where
  at_ : PySem.W.findCls K (.ref C) (.type "type") m = some (.get (.builtin "staticmethod.__get__") (.ref p) .none (.ref C))
  rc : ∃ rest, PySem.W.recIn K p "staticmethod" = some (.ref g :: rest)
  kp : PySem.W.keepIn K (.ref g) = true
structure SrcS (K : PySem.W.Frag) (C : Addr) (m qual : Str) (st : Stmt) (ps : List Str) : Prop where
  ex : ∃ p f fd, FunA K m qual st f fd ∧ ClX.CRead K C (.type "type") ∧ SMet K C m p f ∧ Binds K fd ps []
structure DefS (P : Program) (w : World) (K : PySem.W.Frag) (mg : Str → Option Value) (base : Heap) (CX : CXT) (k : Nat) (C : Addr) (m : Str) (ps : List Str) (sp : Sp) : Prop where
  ex : ∃ p f fd, LkF K f fd ∧ ClX.CRead K C (.type "type") ∧ SMet K C m p f ∧ Binds K fd ps [] ∧ FnOk P w K mg base CX k f fd ps sp
section
variable {P : Program} {w : World} {K : PySem.W.Frag} {mg : Str → Option Value} {base : Heap} {CX : CXT} {m qual : Str} {C : Addr} {st : Stmt} {N ps : List Str} {k j : Nat} {sp : Sp}
theorem DefS.mono (D : DefS P w K mg base CX j C m ps sp) (h : j ≤ k) : DefS P w K mg base CX k C m ps sp := by
  obtain ⟨p, f, fd, h1, h2, h3, h4, h5⟩ := D.ex
  exact ⟨p, f, fd, h1, h2, h3, h4, h5.mono h⟩
theorem SrcS.okX (F : SrcS K C m qual st ps) (S : FnScope N ps (defScope st)) (len : ∀ vs H Q E, sp vs H Q E → vs.length = ps.length)
    (hbody : ∀ (f : Addr) (cdv : Value) (A : Around) (outer : List Env) (s : Shared) (H : Hp) (vs : List V) (Q : VK) (E : XK), Room k (A.deeper (envOfC qual (defScope st) s.heap.objs.size f cdv)) → sp vs H Q E →
      ∃ t, PSs (cxOf (L2.CX P w) P w K mg base N qual (defScope st) f cdv A outer s H E) (defBody st) t ∧ t { nx := fun _ H' => Q .non H', rt := Q } (start N vs) H) : DefS P w K mg base (L2.CX P w) (k + 1) C m ps sp := by
  obtain ⟨p, f, fd, h1, h2, h3, h4⟩ := F.ex
  exact ⟨p, f, fd, h1.lk, h2, h3, h4, h1.okX S len (hbody f)⟩
theorem SrcS.okAX {pre : Pre} (F : SrcS K C m qual st ps) (S : FnScope N ps (defScope st)) (len : ∀ qs out err, pre qs out err → qs.length = ps.length)
    (hbody : ∀ (f : Addr) (cdv : Value) (A : Around) (outer : List Env) (s : Shared) (H : Hp) (E : XK) (qs : List Vp) (out : Vp → Prop) (err : Er → Prop), Room k (A.deeper (envOfC qual (defScope st) s.heap.objs.size f cdv)) → pre qs out err →
      ∃ t, PSs (cxOf (L2.CX P w) P w K mg base N qual (defScope st) f cdv A outer s H E) (defBody st) t ∧ ∀ fr Q, Ret fr Q out → Rse fr E err → Kn fr (envOf N qs) [] (t { nx := fun _ H' => Q .non H', rt := Q })) : DefS P w K mg base (L2.CX P w) (k + 1) C m ps (spA pre) := by
  refine F.okX S (fun vs H Q E h => ?_) (fun f cdv A outer s H vs Q E hr h => ?_)
  · obtain ⟨F, qs, out, err, _, h2, h3, _⟩ := h
    rw [← Paired.len h2]
    exact len _ _ _ h3
  · obtain ⟨F, qs, out, err, h1, h2, h3, h4, h5⟩ := h
    obtain ⟨t, ht, hk⟩ := hbody f cdv A outer s H E qs out err hr h3
    exact ⟨t, ht, hk _ Q h4.ret h5.rse _ F H (OkF.start h1) (env_start h2)⟩
theorem SrcS.okWX {α β : Type} {ef : HE → Er} {args : α → List Vp} {r : Rep β} {md : α → DM β} (F : SrcS K C m qual st ps) (S : FnScope N ps (defScope st)) (len : ∀ x, (args x).length = ps.length)
    (hbody : ∀ (f : Addr) (cdv : Value) (A : Around) (outer : List Env) (s : Shared) (H : Hp) (E : XK) (a : α) (Q : β → Prop) (X : HE → Prop), Room k (A.deeper (envOfC qual (defScope st) s.heap.objs.size f cdv)) → md a Q X →
      ∃ t, PSs (cxOf (L2.CX P w) P w K mg base N qual (defScope st) f cdv A outer s H E) (defBody st) t ∧ ∀ fr Qv, RetW fr Qv r Q → RseW fr E ef X → Kn fr (envOf N (args a)) [] (t { nx := fun _ H' => Qv .non H', rt := Qv })) : DefS P w K mg base (L2.CX P w) (k + 1) C m ps (spA (preW ef args r md)) :=
  F.okAX S (fun qs out err ⟨a, Q, X, e, _⟩ => by rw [e]; exact len a) fun f cdv A outer s H E qs out err hr ⟨a, Q, X, e1, h, e2, e3⟩ => by
    subst e1 e2 e3
    obtain ⟨t, ht, hk⟩ := hbody f cdv A outer s H E a Q X hr h
    exact ⟨t, ht, fun fr Qv hret hrse => hk fr Qv (fun y hy Θ => hret _ ⟨y, hy, rfl⟩ Θ) fun z hz Γ Θ => kr_E hrse ⟨z, hz, rfl⟩⟩
end
end L2
set_option Elab.async false
set_option linter.all false
set_option maxRecDepth 100000
set_option maxHeartbeats 4000000
namespace L2
open PySem PySem.Spec PyProof.Rows PySem.HErr
/-- a thing whose value tells it without a heap -/
class FlatR {β : Type} (r : Rep β) : Prop where
  ok : ∀ {F F' : Hp} {v : V} {y : β}, r.p F' v y → r.p F v y
instance : FlatR zI := ⟨fun h => h⟩
instance : FlatR zB := ⟨fun h => h⟩
instance : FlatR yS := ⟨fun h => h⟩
end L2
set_option Elab.async false
set_option linter.all false
set_option maxRecDepth 100000
set_option maxHeartbeats 4000000
namespace L2
open PySem PySem.Spec PyProof.Rows PySem.HErr
open L2H (RoomH PinOk)
structure DefE (P : Program) (w : World) (K : PySem.W.Frag) (mg : Str → Option Value) (base : Heap) (CX : CXT) (k : Nat) (x : Str) (ps : List Str) (sp : Value → Option Addr → Addr → Sp) : Prop where
  ex : ∃ f fd, LkF K f fd ∧ mg x = some (.ref f) ∧ PySem.W.keepIn K (.ref f) = true ∧ Binds K fd ps [] ∧ (∀ cls d a vs H Q E, sp cls d a vs H Q E → vs.length = ps.length) ∧
    ∀ (A : Around) (outer : List Env) (s : Shared) (H : Hp) (args : Args) (us : List Value) (vs : List V) (Q : VK) (E : XK) (p : Addr × Obj) (cls : Value) (d : Option Addr), RoomH k A → PinOk outer H s p → Zc cls d p.2 → (∃ vs, p.2.data = .fields vs) →
      Env0 P w K mg base A outer s H → BindsTo s fd args (ps.zip us) → Vals vs us → sp cls d p.1 vs H Q E → codeAny (model P w) A (.call (.ref f) args) (CR CX0 outer P w H s Q E) s
theorem DefE.mono {P : Program} {w : World} {K : PySem.W.Frag} {mg : Str → Option Value} {base : Heap} {CX : CXT} {j k : Nat} {x : Str} {ps : List Str} {sp : Value → Option Addr → Addr → Sp} (D : DefE P w K mg base CX j x ps sp) (h : j ≤ k) : DefE P w K mg base CX k x ps sp := by
  obtain ⟨f, fd, h1, h2, h3, h4, h5, h6⟩ := D.ex
  exact ⟨f, fd, h1, h2, h3, h4, h5, fun A outer s H args us vs Q E p cls d hr => h6 A outer s H args us vs Q E p cls d (hr.mono h)⟩
end L2
set_option Elab.async false
set_option linter.all false
set_option maxRecDepth 100000
set_option maxHeartbeats 4000000
namespace L2
open PySem PySem.Spec PyProof.Rows PySem.HErr
/-- the places and the values of a list of own lists (the keys say nothing) -/
def gA {α : Type} (g : GR α) : List Addr := g.map fun x => x.2.1
def gW {α : Type} (g : GR α) : List (List α) := g.map fun x => x.2.2
theorem gA_len {α : Type} {g : GR α} : (gA g).length = (gW g).length := by
  unfold gA gW
  rw [List.length_map, List.length_map]
theorem gW_get {α : Type} {g : GR α} {m : Nat} {v : List α} (h : (gW g)[m]? = some v) : ∃ (k : List Int) (b : Addr), g[m]? = some (k, b, v) := by
  unfold gW at h
  rw [List.getElem?_map] at h
  obtain ⟨⟨k, b, w⟩, h1, h2⟩ := Option.map_eq_some_iff.mp h
  have h2 : w = v := h2
  exact ⟨k, b, by rw [h1, h2]⟩
theorem gA_get {α : Type} {g : GR α} {m : Nat} {k : List Int} {b : Addr} {v : List α} (h : g[m]? = some (k, b, v)) : (gA g)[m]? = some b := by
  unfold gA
  rw [List.getElem?_map, h]
  rfl
theorem gA_set {α : Type} {g : GR α} {m : Nat} {k : List Int} {b : Addr} {v v' : List α} (h : g[m]? = some (k, b, v)) : gA (g.set m (k, b, v')) = gA g := by
  unfold gA
  rw [List.map_set]
  have : (g.map fun x => x.2.1)[m]? = some b := by rw [List.getElem?_map, h]; rfl
  refine List.ext_getElem? fun j => ?_
  rw [List.getElem?_set]
  by_cases q : m = j
  · subst q
    rw [if_pos rfl, if_pos (List.getElem?_eq_some_iff.mp this).1, this]
  · rw [if_neg q]
theorem gW_set {α : Type} {g : GR α} {m : Nat} {k : List Int} {b : Addr} {v' : List α} : gW (g.set m (k, b, v')) = (gW g).set m v' := by
  unfold gW
  rw [List.map_set]
section
variable {fr fr' : Fr} {Γ Γ' : Gam} {Θ Θ' : List Cel} {F F' H H' : Hp} {K : Vp → List Cel → Prop} {Qv : VK}
/-- [e for x in xs], each e a list of one's own -/
theorem we_lcGL {α β : Type} {r : Rep α} {s : Rep β} {wi : TI} {g : TG} {te : TE} {vs : List Nat}
    (w : Wi fr Γ Θ wi fun its Θ1 => ∃ (xs : List α) (f : α → List β) (Γ2 : α → Gam), its = xs.map (iz r) ∧ Θ1 = Θ ∧ xs.length ≤ big ∧ (∀ x, TgR g vs (iz r x) (wipeG Γ vs) (Γ2 x)) ∧
      (∀ x Θ0, We fr (Γ2 x) Θ0 te fun p Θ' => ∃ b, p = zAt b ∧ Θ' = cY b s (f x) :: Θ0) ∧ ∀ D gg, gW gg = xs.map f → K (zAt D) ((cY D zR (gA gg) :: Θ) ++ gC s gg)) : We fr Γ Θ (tLc wi g tYes te vs) K := fun σ F H ok env Q q => by
  refine w σ F H ok env _ fun its Θ1 ⟨xs, f, Γ2, e1, e2, hl, tg, he, k⟩ J F1 H1 s1 ok1 jok => ?_
  subst e1 e2
  intro D nD
  refine ⟨fun i m H' => m = xs.length - i ∧ i ≤ xs.length ∧ ∃ F2 gg, Same F1 F2 ∧ gW gg = (xs.take i).map f ∧ OkF fr ((cY D zR (gA gg) :: Θ1) ++ gC s gg) F2 H', ⟨xs.length, by simp, Nat.zero_le _, F1, [], Same.refl _, rfl, by
    show OkF fr ((cY D zR [] :: Θ1) ++ []) _ _
    rw [List.append_nil]
    exact ok1.mkOwn (c := cY D zR []) nD rfl ⟨⟨[], rfl, .nil⟩, Nat.zero_le _⟩⟩, ?_⟩
  rintro i m H' ⟨rfl, hi, F2, gg, s2, eg, ok2⟩
  obtain ⟨j1, j2⟩ := jok F2 H' s2 ok2.fh
  by_cases hlt : i < xs.length
  · have hx : xs[i]? = some xs[i] := List.getElem?_eq_getElem hlt
    generalize xs[i] = x at hx
    obtain ⟨jg, jy⟩ := j1 i (iz r x) (by rw [List.getElem?_map, hx]; rfl)
    refine .inr ⟨jg, fun H3 => ∃ F3 gg, Same F1 F3 ∧ gW gg = (xs.take (i + 1)).map f ∧ OkF fr ((cY D zR (gA gg) :: Θ1) ++ gC s gg) F3 H3, fun H3 p => ⟨xs.length - (i + 1), by omega, rfl, hlt, p⟩, fun v H3 y => ?_⟩
    obtain ⟨F3, e1, e2, e3, e4, e5⟩ := jy v H3 y
    have ok3 := ok2.grow e2 e1 e3 e4
    have s3 := s2.trans e1
    refine tg x (L2.wipe σ vs) F3 H3 v ok3.fh ((env.mono (s1.trans s3)).wipe vs) e5 _ fun σ2 env2 hw => ⟨by rw [hw, wipe_idem], ?_⟩
    refine yes_if ?_
    refine he x _ σ2 F3 H3 ok3 env2 _ fun p Θ3 ⟨b, e8, e9⟩ u F5 H5 s5 ok5 hp => ?_
    subst e8 e9
    have hp : u = V.ref b := hp
    subst hp
    have ll : (gA gg).length = i := by
      rw [gA_len, eg, List.length_map, List.length_take]
      omega
    obtain ⟨_, ⟨o, h2, ⟨⟨acc, rfl, h4⟩, h5⟩⟩, _⟩ := ok5.ce (cY D zR (gA gg)) (.tail _ (.head _))
    have ok6 := ok5.mut (i := 1) (c := cY D zR (gA gg)) (c' := cY D zR (gA gg ++ [b])) (o := .lst (acc ++ [.ref b])) rfl rfl rfl ⟨⟨_, rfl, PySem.Paired.snoc h4 (show zR.p F5 (.ref b) b from rfl)⟩, by rw [List.length_append]; show _ + 1 ≤ _; omega⟩
    refine ⟨acc, h2, ?_, F5, gg ++ [([], b, f x)], s3.trans s5, ?_, ?_⟩
    · rw [Paired.len h4, ll]
      exact big_lt (by omega)
    · have : (xs.take (i + 1)).map f = (xs.take i).map f ++ [f x] := by rw [take_more hx, List.map_append]; rfl
      rw [this, ← eg]
      unfold gW
      rw [List.map_append]
      rfl
    · refine ok6.perm ?_
      have a1 : gA (gg ++ [([], b, f x)]) = gA gg ++ [b] := by unfold gA; rw [List.map_append]; rfl
      have a2 : gC s (gg ++ [([], b, f x)]) = gC s gg ++ [cY b s (f x)] := by unfold gC; rw [List.map_append]; rfl
      rw [a1, a2, ← List.append_assoc]
      exact (List.perm_append_singleton _ _).symm
  · have e : i = xs.length := by omega
    subst e
    rw [List.take_length] at eg
    exact .inl ⟨by rw [List.length_map] at j2; exact j2, q _ _ (k D gg eg) _ F2 H' (s1.trans s2) ok2 rfl⟩
/-- xs[n], a list of its own -/
theorem oy_ixGL {Kf : PySem.W.Frag} {α : Type} {g : GR α} {n : Int} {a b : Addr} {j m : Nat} {k : List Int} {v : List α} (hj : Θ[j]? = some (cY a zR (gA g))) (hn : ixN (gW g).length n = some m) (hm : g[m]? = some (k, b, v)) (kk : K (zAt b) Θ) : Ops fr Θ (rIxL Kf) (zAt a) (iz zI n) K :=
  oy_ixC (r := zR) (x := b) hj (by unfold atI; rw [gA_len, hn]; exact gA_get hm) kk
/-- x[i] = e, x one of the lists -/
theorem kn_setGL {α : Type} {r : Rep α} {g : GR α} {a b : Addr} {i m : Nat} {k : List Int} {v : List α} {rows : List (List α)} (L : Cel → List Cel) {te ti : TE} {D : Ends} (hΘ : Θ = L (cY a zR (gA g)) ++ gC r g) (hi : Γ[i]? = some (some (zAt b))) (hm : g[m]? = some (k, b, v)) (eg : gW g = rows)
    (w : We fr Γ Θ te fun p Θ1 => We fr Γ Θ1 ti fun q Θ2 => ∃ x n m2, p = iz r x ∧ q = iz zI n ∧ Θ2 = Θ ∧ ixN v.length n = some m2 ∧ ∀ g2, gW g2 = rows.set m (v.set m2 x) → Kn fr Γ (L (cY a zR (gA g2)) ++ gC r g2) D.nx) : Kn fr Γ Θ (tAsg te (gSub (tVar i) ti rSetL) D) := by
  have hj : Θ[(L (cY a zR (gA g))).length + m]? = some (cY b r v) := by
    rw [hΘ, List.getElem?_append_right (by omega), Nat.add_sub_cancel_left]
    unfold gC
    rw [List.getElem?_map, hm]
    rfl
  refine kn_setY (r := r) (xs := v) (j := (L (cY a zR (gA g))).length + m) hi (w.imp fun p Θ1 w1 => w1.imp fun q Θ2 ⟨x, n, m2, e1, e2, e3, e4, kk⟩ => ?_)
  subst e3
  refine ⟨x, n, m2, e1, e2, hj, e4, ?_⟩
  have kk := kk (g.set m (k, b, v.set m2 x)) (by rw [gW_set, eg])
  rw [gA_set hm] at kk
  have e : Θ2.set ((L (cY a zR (gA g))).length + m) (cY b r (v.set m2 x)) = L (cY a zR (gA g)) ++ gC r (g.set m (k, b, v.set m2 x)) := by
    rw [hΘ, List.set_append_right _ _ (by omega), Nat.add_sub_cancel_left]
    unfold gC
    rw [List.map_set]
  rw [e]
  exact kk
theorem pvs_up {α : Type} {r : Rep α} {g : GR α} {vs : List V} (h : PVs zR F vs (gA g)) (hv : ∀ x ∈ g, (iz (yL r) x.2.2).p F (.ref x.2.1)) : PVs (yL r) F vs (gW g) := by
  unfold gA at h
  unfold gW
  induction g generalizing vs with
  | nil => cases h; exact .nil
  | cons x g ih =>
    cases h with
    | cons h1 h2 =>
      refine .cons ?_ (ih h2 fun y hy => hv y (List.mem_cons_of_mem _ hy))
      have e : _ = V.ref x.2.1 := h1
      rw [e]
      exact hv x (List.mem_cons_self ..)
/-- the lists are frozen: the list is one of lists as values -/
theorem kn_frzGL {α : Type} {r : Rep α} {g : GR α} {a : Addr} {j : Nat} {rows : List (List α)} {P : L2.St → Hp → Prop} (L : Cel → List Cel) (hΘ : Θ = L (cY a zR (gA g)) ++ gC r g) (hj : ∀ c, (L c)[j]? = some c) (hs : ∀ c d, (L c).set j d = L d) (eg : gW g = rows)
    (k : Kn fr Γ (L (cY a (yL r) rows)) P) : Kn fr Γ Θ P := fun σ F H ok env => by
  rw [hΘ] at ok
  obtain ⟨F', s1, ok1, hv⟩ := frz_all ok
  obtain ⟨h0, ⟨o, h2, ⟨⟨us, rfl, h4⟩, h5⟩⟩, h6⟩ := ok1.ce _ (List.mem_of_getElem? (hj _))
  have h7 := pvs_up (r := r) h4 hv
  rw [eg] at h7
  have lg : rows.length = (gA g).length := by rw [← eg, gA_len]
  have ok2 : OkF fr (L (cY a (yL r) rows)) F' H := by
    have := OkF.retell (i := j) (c' := cY a (yL r) rows) (o := .lst us) ok1 (hj _) rfl rfl h2 ⟨⟨us, rfl, h7⟩, by omega⟩
    rwa [hs] at this
  exact k σ F' H ok2 (env.mono s1)
end
theorem e_all {α : Type} {r : Rep α} [d : EDat r] {Kf : PySem.W.Frag} {F : Hp} {vs : List V} {xs : List α} (h : PVs r F vs xs) : DpAll Kf F vs (xs.map d.enc) ∧ PyData.canLayAll0 (xs.map d.enc) = true ∧ PyData.depthAll (xs.map d.enc) ≤ d.dep := by
  induction h with
  | nil => exact ⟨.nil, by simp only [List.map_nil, PyData.canLayAll0], by simp [PyData.depthAll]⟩
  | cons a _ ih => exact ⟨.cons (d.dp a) ih.1, by simp only [List.map_cons, PyData.canLayAll0, d.cl a, ih.2.1, Bool.and_self], by
      have h1 := d.dl a
      have h2 := ih.2.2
      simp only [List.map_cons, PyData.depthAll]
      omega⟩
instance (priority := 50) edL {α : Type} {r : Rep α} [d : EDat r] : EDat (yL r) := ⟨fun xs => .list (xs.map d.enc), d.dep + 1, fun ⟨⟨a, vs, h1, h2, h3⟩, _⟩ => by subst h1; exact .lst (SqL.of h2) (e_all h3).1, fun ⟨⟨a, vs, h1, h2, h3⟩, _⟩ => by simp only [PyData.canLay0]; exact (e_all (Kf := []) h3).2.1, fun ⟨⟨a, vs, h1, h2, h3⟩, _⟩ => by
  have := (e_all (Kf := []) h3).2.2
  simp only [PyData.depth]
  omega⟩
end L2
set_option Elab.async false
set_option linter.all false
set_option maxRecDepth 100000
set_option maxHeartbeats 4000000
namespace Held
open PySem PySem.Spec PyProof.Rows L2 PySem.HErr
local macro_rules | `(tactic| ac_rfl) => `(tactic| (repeat (first | with_reducible refine kn_seq ?_ | with_reducible refine kn_asg ?_ | with_reducible refine kn_ret ?_ | with_reducible refine kn_next ?_ | with_reducible refine we_op ?_ | with_reducible refine we_un ?_ | with_reducible refine wa_nil ?_ | with_reducible refine wa_cons ?_ | with_reducible refine we_cb ?_ | with_reducible refine we_callE ?_ | with_reducible refine we_callS ?_ | with_reducible refine we_cI ?_ | with_reducible refine we_cB ?_ | with_reducible refine we_cN ?_ | (with_reducible refine is_cS ?_; refine we_cS (asc_of (by decide)) ?_) | (with_reducible refine is_var ?_; refine we_var rfl ?_) | with_reducible refine wt_test ?_ | with_reducible refine wt_b ?_ | with_reducible refine wt_not ?_ | with_reducible refine we_not ?_ | with_reducible refine we_sl ?_ | with_reducible refine wo_none ?_ | with_reducible refine wo_some ?_ | with_reducible refine wt_yes ?_ | with_reducible refine ops_I0 ?_ | with_reducible refine ops_B0 ?_ | with_reducible refine uns_I ?_ | with_reducible refine ops_eqI ?_ | with_reducible refine ops_neI ?_ | with_reducible refine ops_eqS ?_ | with_reducible refine ops_neS ?_ | with_reducible refine ops_eqB ?_ | with_reducible refine ops_neB ?_ | with_reducible refine ops_inS seq_L ?_ | with_reducible refine ops_inS seq_T ?_ | with_reducible refine ops_ninS seq_L ?_ | with_reducible refine ops_ninS seq_T ?_ | with_reducible refine ops_inI seq_L ?_ | with_reducible refine ops_inI seq_T ?_ | with_reducible refine ops_ix20 ?_ | with_reducible refine ops_ix21 ?_ | with_reducible refine ops_ix30 ?_ | with_reducible refine ops_ix31 ?_ | with_reducible refine ops_ix32 ?_ | with_reducible refine cb_len seq_L ?_ | with_reducible refine cb_len seq_T ?_ | with_reducible refine cb_list seq_L ?_ | with_reducible refine cb_list seq_T ?_ | with_reducible refine cb_tupleL ?_ | with_reducible refine cb_tupleT ?_ | with_reducible refine cb_any ?_ | with_reducible refine cb_all ?_ | with_reducible refine cb_sum ?_ | with_reducible refine cb_int ?_ | with_reducible refine cb_abs ?_ | with_reducible refine we_fld ?_ | with_reducible refine we_dget ?_ | with_reducible refine we_din ?_ | with_reducible refine we_dnin ?_ | with_reducible refine we_met ?_ | with_reducible refine wi_list ?_ | with_reducible refine wi_tup ?_ | with_reducible refine wi_range ?_ | with_reducible refine wi_range2 ?_ | with_reducible refine kn_if ?_ | with_reducible refine kn_raise ?_ | with_reducible refine ⟨_, fldP_taken (by assumption), ?_⟩ | with_reducible refine ⟨_, fldP_given (by assumption), ?_⟩ | with_reducible refine ⟨_, fldP_places (by assumption), ?_⟩ | with_reducible refine ⟨_, fldP_begin (by assumption), ?_⟩ | with_reducible refine ⟨_, fldP_steps (by assumption), ?_⟩ | with_reducible refine ⟨_, _, _, _, dic_D, rfl, ?_⟩ | refine ⟨ins_plan rfl, ?_⟩ | with_reducible refine we_mk ?_ | with_reducible refine we_cT ?_ | with_reducible refine we_cR ?_ | with_reducible refine ops_isO ?_ | with_reducible refine ops_notO ?_ | with_reducible refine ops_isX ?_ | with_reducible refine ops_notX ?_ | with_reducible refine ops_isN ?_ | with_reducible refine ops_notN ?_ | with_reducible refine ops_eqD (by decide) ?_ | with_reducible refine ops_neD (by decide) ?_ | with_reducible apply wt_and | with_reducible apply wt_or | with_reducible refine im_t (fun _ => ?_) | with_reducible refine im_f (fun _ => ?_) | with_reducible refine im_tv (fun _ => ?_) | with_reducible refine im_fv (fun _ => ?_) | with_reducible refine cb_isi ty_L kit_ll ?_ | with_reducible refine cb_isi ty_T kit_tt ?_ | with_reducible refine cb_isi ty_2 kit_tt ?_ | with_reducible refine cb_isi ty_I kit_ii ?_ | with_reducible refine cb_isi ty_I kit_ib ?_ | with_reducible refine cb_isi ty_B kit_bb ?_ | with_reducible refine cb_isi ty_S kit_ss ?_ | exact ⟨rfl, rfl⟩ | with_reducible refine ⟨_, rfl, ?_⟩ | refine ⟨_, _, _, rfl, ?_⟩ | refine ⟨_, _, _, _, rfl, ?_⟩)))
local macro_rules | `(tactic| bv_omega) => `(tactic| (first | with_reducible refine kn_seq ?_ | with_reducible refine kn_asg ?_ | with_reducible refine kn_ret ?_ | with_reducible refine kn_next ?_ | with_reducible refine we_op ?_ | with_reducible refine we_un ?_ | with_reducible refine wa_nil ?_ | with_reducible refine wa_cons ?_ | with_reducible refine we_cb ?_ | with_reducible refine we_callE ?_ | with_reducible refine we_callS ?_ | with_reducible refine we_cI ?_ | with_reducible refine we_cB ?_ | with_reducible refine we_cN ?_ | (with_reducible refine is_cS ?_; refine we_cS (asc_of (by decide)) ?_) | (with_reducible refine is_var ?_; refine we_var rfl ?_) | with_reducible refine wt_test ?_ | with_reducible refine wt_b ?_ | with_reducible refine wt_not ?_ | with_reducible refine we_not ?_ | with_reducible refine we_sl ?_ | with_reducible refine wo_none ?_ | with_reducible refine wo_some ?_ | with_reducible refine wt_yes ?_ | with_reducible refine ops_I0 ?_ | with_reducible refine ops_B0 ?_ | with_reducible refine uns_I ?_ | with_reducible refine ops_eqI ?_ | with_reducible refine ops_neI ?_ | with_reducible refine ops_eqS ?_ | with_reducible refine ops_neS ?_ | with_reducible refine ops_eqB ?_ | with_reducible refine ops_neB ?_ | with_reducible refine ops_inS seq_L ?_ | with_reducible refine ops_inS seq_T ?_ | with_reducible refine ops_ninS seq_L ?_ | with_reducible refine ops_ninS seq_T ?_ | with_reducible refine ops_inI seq_L ?_ | with_reducible refine ops_inI seq_T ?_ | with_reducible refine ops_ix20 ?_ | with_reducible refine ops_ix21 ?_ | with_reducible refine ops_ix30 ?_ | with_reducible refine ops_ix31 ?_ | with_reducible refine ops_ix32 ?_ | with_reducible refine cb_len seq_L ?_ | with_reducible refine cb_len seq_T ?_ | with_reducible refine cb_list seq_L ?_ | with_reducible refine cb_list seq_T ?_ | with_reducible refine cb_tupleL ?_ | with_reducible refine cb_tupleT ?_ | with_reducible refine cb_any ?_ | with_reducible refine cb_all ?_ | with_reducible refine cb_sum ?_ | with_reducible refine cb_int ?_ | with_reducible refine cb_abs ?_ | with_reducible refine we_fld ?_ | with_reducible refine we_dget ?_ | with_reducible refine we_din ?_ | with_reducible refine we_dnin ?_ | with_reducible refine we_met ?_ | with_reducible refine wi_list ?_ | with_reducible refine wi_tup ?_ | with_reducible refine wi_range ?_ | with_reducible refine wi_range2 ?_ | with_reducible refine kn_if ?_ | with_reducible refine kn_raise ?_ | with_reducible refine ⟨_, fldP_taken (by assumption), ?_⟩ | with_reducible refine ⟨_, fldP_given (by assumption), ?_⟩ | with_reducible refine ⟨_, fldP_places (by assumption), ?_⟩ | with_reducible refine ⟨_, fldP_begin (by assumption), ?_⟩ | with_reducible refine ⟨_, fldP_steps (by assumption), ?_⟩ | with_reducible refine ⟨_, _, _, _, dic_D, rfl, ?_⟩ | refine ⟨ins_plan rfl, ?_⟩ | with_reducible refine we_mk ?_ | with_reducible refine we_cT ?_ | with_reducible refine we_cR ?_ | with_reducible refine ops_isO ?_ | with_reducible refine ops_notO ?_ | with_reducible refine ops_isX ?_ | with_reducible refine ops_notX ?_ | with_reducible refine ops_isN ?_ | with_reducible refine ops_notN ?_ | with_reducible refine ops_eqD (by decide) ?_ | with_reducible refine ops_neD (by decide) ?_ | with_reducible apply wt_and | with_reducible apply wt_or | with_reducible refine im_t (fun _ => ?_) | with_reducible refine im_f (fun _ => ?_) | with_reducible refine im_tv (fun _ => ?_) | with_reducible refine im_fv (fun _ => ?_) | with_reducible refine cb_isi ty_L kit_ll ?_ | with_reducible refine cb_isi ty_T kit_tt ?_ | with_reducible refine cb_isi ty_2 kit_tt ?_ | with_reducible refine cb_isi ty_I kit_ii ?_ | with_reducible refine cb_isi ty_I kit_ib ?_ | with_reducible refine cb_isi ty_B kit_bb ?_ | with_reducible refine cb_isi ty_S kit_ss ?_ | exact ⟨rfl, rfl⟩ | with_reducible refine ⟨_, rfl, ?_⟩ | refine ⟨_, _, _, rfl, ?_⟩ | refine ⟨_, _, _, _, rfl, ?_⟩))
local macro_rules | `(tactic| nofun) => `(tactic| (repeat (first | with_reducible refine kn_seq ?_ | with_reducible refine kn_asg ?_ | with_reducible refine kn_ret ?_ | with_reducible refine kn_next ?_ | with_reducible refine we_op ?_ | with_reducible refine we_un ?_ | with_reducible refine wa_nil ?_ | with_reducible refine wa_cons ?_ | with_reducible refine we_cb ?_ | with_reducible refine we_callE ?_ | with_reducible refine we_callS ?_ | with_reducible refine we_cI ?_ | with_reducible refine we_cB ?_ | with_reducible refine we_cN ?_ | (with_reducible refine is_cS ?_; refine we_cS (asc_of (by decide)) ?_) | (with_reducible refine is_var ?_; first | refine we_varB rfl ?_ | refine we_varP (by assumption) rfl ?_ | refine we_var rfl ?_) | with_reducible refine wt_test ?_ | with_reducible refine wt_b ?_ | with_reducible refine wt_not ?_ | with_reducible refine we_not ?_ | with_reducible refine we_sl ?_ | with_reducible refine wo_none ?_ | with_reducible refine wo_some ?_ | with_reducible refine wt_yes ?_ | with_reducible refine ops_I0 ?_ | with_reducible refine ops_B0 ?_ | with_reducible refine uns_I ?_ | with_reducible refine ops_eqI ?_ | with_reducible refine ops_neI ?_ | with_reducible refine ops_eqS ?_ | with_reducible refine ops_neS ?_ | with_reducible refine ops_eqB ?_ | with_reducible refine ops_neB ?_ | with_reducible refine ops_inS seq_L ?_ | with_reducible refine ops_inS seq_T ?_ | with_reducible refine ops_ninS seq_L ?_ | with_reducible refine ops_ninS seq_T ?_ | with_reducible refine ops_inI seq_L ?_ | with_reducible refine ops_inI seq_T ?_ | with_reducible refine ops_ix20 ?_ | with_reducible refine ops_ix21 ?_ | with_reducible refine ops_ix30 ?_ | with_reducible refine ops_ix31 ?_ | with_reducible refine ops_ix32 ?_ | with_reducible refine cb_len seq_L ?_ | with_reducible refine cb_len seq_T ?_ | with_reducible refine cb_list seq_L ?_ | with_reducible refine cb_list seq_T ?_ | with_reducible refine cb_tupleL ?_ | with_reducible refine cb_tupleT ?_ | with_reducible refine cb_any ?_ | with_reducible refine cb_all ?_ | with_reducible refine cb_sum ?_ | with_reducible refine cb_int ?_ | with_reducible refine cb_abs ?_ | with_reducible refine we_fld ?_ | with_reducible refine we_dget ?_ | with_reducible refine we_din ?_ | with_reducible refine we_dnin ?_ | with_reducible refine we_met ?_ | with_reducible refine wi_list ?_ | with_reducible refine wi_tup ?_ | with_reducible refine wi_range ?_ | with_reducible refine wi_range2 ?_ | with_reducible refine kn_if ?_ | with_reducible refine kn_raise ?_ | with_reducible refine ⟨_, fldP_taken (by assumption), ?_⟩ | with_reducible refine ⟨_, fldP_given (by assumption), ?_⟩ | with_reducible refine ⟨_, fldP_places (by assumption), ?_⟩ | with_reducible refine ⟨_, fldP_begin (by assumption), ?_⟩ | with_reducible refine ⟨_, fldP_steps (by assumption), ?_⟩ | with_reducible refine ⟨_, _, _, _, dic_D, rfl, ?_⟩ | refine ⟨ins_plan rfl, ?_⟩ | with_reducible refine we_mk ?_ | with_reducible refine we_cT ?_ | with_reducible refine we_cR ?_ | with_reducible refine ops_isO ?_ | with_reducible refine ops_notO ?_ | with_reducible refine ops_isX ?_ | with_reducible refine ops_notX ?_ | with_reducible refine ops_isN ?_ | with_reducible refine ops_notN ?_ | with_reducible refine ops_eqD (by decide) ?_ | with_reducible refine ops_neD (by decide) ?_ | with_reducible apply wt_and | with_reducible apply wt_or | with_reducible refine im_t (fun _ => ?_) | with_reducible refine im_f (fun _ => ?_) | with_reducible refine im_tv (fun _ => ?_) | with_reducible refine im_fv (fun _ => ?_) | with_reducible refine cb_isi ty_L kit_ll ?_ | with_reducible refine cb_isi ty_T kit_tt ?_ | with_reducible refine cb_isi ty_2 kit_tt ?_ | with_reducible refine cb_isi ty_I kit_ii ?_ | with_reducible refine cb_isi ty_I kit_ib ?_ | with_reducible refine cb_isi ty_B kit_bb ?_ | with_reducible refine cb_isi ty_S kit_ss ?_ | exact ⟨rfl, rfl⟩ | with_reducible refine ⟨_, rfl, ?_⟩ | refine ⟨_, _, _, rfl, ?_⟩ | refine ⟨_, _, _, _, rfl, ?_⟩)))
local macro_rules | `(tactic| and_intros) => `(tactic| (repeat (first | exact .nil | refine .cons (.inr rfl) ?_ | refine .cons (.inl rfl) ?_)))
local macro_rules | `(tactic| subst_vars) => `(tactic| (try dsimp only [List.set, List.eraseIdx, L2.envOf, List.map, Option.map]))
def topS (i : Nat) : Stmt := PySem.Challenge.pw_heldsteps_k12_solve_refusals.main.body.getD i (.Pass ⟨0, 0, 0, 0⟩)
section
variable {P : Program} {w : World} {K : PySem.W.Frag} {mg : Str → Option Value} {base : Heap}
def m_draw (m : Int) : DM Int := fun Q _ => drawD m Q
theorem fmod_box {x m : Int} (h : 0 < m) : 0 ≤ x.fmod m ∧ x.fmod m < m := ⟨Int.fmod_nonneg_of_pos _ h, Int.fmod_lt_of_pos _ h⟩
theorem big200 {m : Int} (h0 : 0 < m) (h : m ≤ 10 ^ 40) : m.natAbs < 2 ^ 200 := by
  have e : (10 : Int) ^ 40 < 2 ^ 200 := by decide
  have e2 : ((2 ^ 200 : Nat) : Int) = 2 ^ 200 := by decide
  omega
abbrev s__law_bag : Stmt := topS 28
theorem sc__law_bag : FnScope ["_law_script", "_law_cell"] ["_law_script"] (defScope s__law_bag) := ⟨rfl, rfl, rfl, by decide +kernel, rfl, by decide +kernel, by decide +kernel⟩
theorem ok__law_bag {k : Nat} (B : Bl mg) (F : Src K mg "_law_bag" s__law_bag ["_law_script"]) : Def P w K mg base CX0 (k + 1) "_law_bag" ["_law_script"] (spN (preBag K 4)) := by
  refine F.okN sc__law_bag (fun qs out err ⟨_, h, _⟩ => by rw [h]; rfl) (fun f cdv A outer s H E qs out err hr ⟨ns, e1, e2, e3⟩ => ?_)
  subst e1 e2 e3
  refine ⟨_, (pss_one (ps_ret (pe_lst (pa_cons (pe_lc (own := [("_law_cell", 1)]) (g := gName 1) (by rfl) sc__law_bag.nd (kpi_list (K := K) (pv 0)) (blkOk_by (N := ["_law_script", "_law_cell"]) (sc := defScope s__law_bag) (by decide +kernel)) (fun _ _ _ _ _ => (pg_name (i := 1) sc__law_bag.nd rfl (Or.inl rfl))) (fun _ _ _ _ _ => pts_nil) (fun _ _ _ _ _ => (pe_callTy call_int1 (by rfl) B.int' (by decide +kernel) (pa_cons (pv 1) pa_nil)))) (pa_cons pe_int (pa_cons pe_int (pa_cons pe_int (pa_cons pe_int pa_nil)))))))), fun fr Q hret => ?_⟩
  refine kn_ret (we_bag (m := 4) (wa_cons (we_lcM0 (r := zI) (s := zI) (wi_scr (we_var rfl ⟨ns, rfl, fun e => ⟨_, fun x => x, _, rfl, rfl, e, fun x => tg_name, fun x c => we_cb (wa_cons (we_var rfl (wa_nil (cb_int ⟨rfl, rfl⟩)))), ?_⟩⟩)))))
  refine wa_cons (we_cI (wa_cons (we_cI (wa_cons (we_cI (wa_cons (we_cI (wa_nil ⟨_, [0, 0, 0, 7], rfl, rfl, by decide, fun i h => ?_, fun b l => ?_⟩))))))))
  · cases h
    decide
  · exact hret _ _ ⟨b, l, rfl, rfl⟩ (fun c hc => by rw [List.mem_singleton.mp hc]; rfl) _ [] (by simp)
abbrev s__law_draw : Stmt := topS 29
theorem sc__law_draw : FnScope ["_law_bag_here", "_law_many", "_law_cell", "_law_digit"] ["_law_bag_here", "_law_many"] (defScope s__law_draw) := ⟨rfl, rfl, rfl, by decide +kernel, rfl, by decide +kernel, by decide +kernel⟩
theorem ok__law_draw {k : Nat} (B : Bl mg) (F : Src K mg "_law_draw" s__law_draw ["_law_bag_here", "_law_many"]) : Def P w K mg base CX0 (k + 1) "_law_draw" ["_law_bag_here", "_law_many"] (spC (preK (cBag 4) (preBW (fun x : Int => [iz zI x]) zI m_draw))) := by
  refine F.okKW (fun _ _ => rfl) sc__law_draw (fun _ => rfl) (fun f cdv A outer s H E b l m Q hr h => ⟨_, (pss_cons (ps_asg (pe_op op_add (pe_ix (kix_list (K := K)) (pv 0) pe_int (fun _ _ => rfl)) pe_int) (pg_sub (pv 0) pe_int set_list))
 (C8.pss_cut (ps_if (PW.pt (pw_and (pt_cmpR op_eq (pe_ix (kix_list (K := K)) (pv 0) pe_int (fun _ _ => rfl)) pe_int (nomark _)) (pw_and1 (pt_cmpR op_lt (pe_ix (kix_list (K := K)) (pv 0) pe_int (fun _ _ => rfl)) (pe_callB (kcall_len (K := K)) (by rfl) B.len PySem.boot_len (pa_cons (pe_ix (kix_list (K := K)) (pv 0) pe_int (fun _ _ => rfl)) pa_nil)) (nomark _))))) (pss_cons (ps_asg (pe_ix (kix_list (K := K)) (pe_ix (kix_list (K := K)) (pv 0) pe_int (fun _ _ => rfl)) (pe_ix (kix_list (K := K)) (pv 0) pe_int (fun _ _ => rfl)) (fun _ _ => rfl)) (pg_name (i := 2) sc__law_draw.nd rfl (Or.inl rfl)))
 (pss_cons (ps_asg (pe_op op_add (pe_ix (kix_list (K := K)) (pv 0) pe_int (fun _ _ => rfl)) pe_int) (pg_sub (pv 0) pe_int set_list))
 (pss_one (ps_if (pt_cmpR op_ge (pv 2) (pe_op op_pow pe_int pe_int) (nomark _)) (pss_one (ps_asg (pv 2) (pg_sub (pv 0) pe_int set_list))) (pss_one (ps_asg (pe_op op_modN (pe_callTy call_int1 (by rfl) B.int' (by decide +kernel) (pa_cons (pe_op op_add (pe_op op_mul (pe_ix (kix_list (K := K)) (pv 0) pe_int (fun _ _ => rfl)) pe_int) (pv 2)) pa_nil)) pe_int) (pg_sub (pv 0) pe_int set_list))))))) pss_nil)
 (pss_cons (ps_if (pt_cmpR op_gt (pe_ix (kix_list (K := K)) (pv 0) pe_int (fun _ _ => rfl)) pe_int (nomark _)) (pss_cons (ps_asg (pe_op op_modN (pe_callTy call_int1 (by rfl) B.int' (by decide +kernel) (pa_cons (pe_ix (kix_list (K := K)) (pv 0) pe_int (fun _ _ => rfl)) pa_nil)) (pv 1)) (pg_name (i := 3) sc__law_draw.nd rfl (Or.inl rfl)))
 (pss_cons (ps_asg (pe_op op_fdivW (pe_ix (kix_list (K := K)) (pv 0) pe_int (fun _ _ => rfl)) (pv 1)) (pg_sub (pv 0) pe_int set_list))
 (pss_one (ps_ret (pv 3))))) pss_nil)
 (pss_cons (ps_asg (pe_op op_modN (pe_callTy call_int1 (by rfl) B.int' (by decide +kernel) (pa_cons (pe_op op_add (pe_op op_add (pe_op op_mul (pe_ix (kix_list (K := K)) (pv 0) pe_int (fun _ _ => rfl)) pe_int) (pe_op op_mul (pe_ix (kix_list (K := K)) (pv 0) pe_int (fun _ _ => rfl)) pe_int)) pe_int) pa_nil)) pe_int) (pg_sub (pv 0) pe_int set_list))
 (pss_one (ps_ret (pe_op op_modN (pe_callTy call_int1 (by rfl) B.int' (by decide +kernel) (pa_cons (pe_op op_fdivN (pe_op op_modN (pe_callTy call_int1 (by rfl) B.int' (by decide +kernel) (pa_cons (pe_op op_add (pe_op op_mul (pe_ix (kix_list (K := K)) (pv 0) pe_int (fun _ _ => rfl)) pe_int) (pe_op op_mul (pe_ix (kix_list (K := K)) (pv 0) pe_int (fun _ _ => rfl)) pe_int)) pa_nil)) pe_int) pe_int) pa_nil)) (pv 1)))))))), fun fr Qv hret => ?_⟩)
  obtain ⟨m0, m1, h⟩ := h
  refine kn_bag (j := 0) rfl fun ns is hl hi => ?_
  obtain ⟨i, c, n, r, rfl⟩ : ∃ i c n r, is = [i, c, n, r] := by
    match is, hl with
    | [i, c, n, r], _ => exact ⟨i, c, n, r, rfl⟩
  have hi := hi i rfl
  refine kn_seq (kb_set (i := 0) (m := 2) (j := 0) rfl (we_op (we_op (we_var rfl (we_cI (ob_ix (j := 0) (m := 2) rfl rfl rfl (we_cI (ops_I0 (we_cI ⟨_, _, rfl, rfl, rfl, by simp, rfl, ?_⟩)))))))))
  try dsimp only
  refine kn_cut (fun Γ Θ => ∃ i c r : Int, 0 ≤ i ∧ Γ = [some (zAt b), some (iz zI m), none, none] ∧ Θ = [cBg b l ns [i, c, n + 1, r]]) ?_ ?_
  · refine kn_if (wt_and (b := decide (c = 0)) (c := decide (i < (ns.length : Int))) ?_ (fun _ => ?_) ⟨fun hc => ?_, fun hc => ?_⟩)
    · exact wt_test (we_op (we_op (we_var rfl (we_cI (ob_ix (j := 0) (m := 1) rfl rfl rfl (we_cI (ops_eqI ⟨_, rfl, ⟨rfl, rfl⟩⟩)))))))
    · refine wt_test (we_op (we_op (we_var rfl (we_cI (ob_ix (j := 0) (m := 0) rfl rfl rfl ?_)))))
      refine we_cb (wa_cons (we_op (we_var rfl (we_cI (ob_ix0 (j := 0) rfl (wa_nil ?_))))))
      exact cy_len sy_L fun e => ops_B0 ⟨_, rfl, ⟨rfl, rfl⟩⟩
    · rw [Bool.and_eq_true, decide_eq_true_iff, decide_eq_true_iff] at hc
      obtain ⟨j, rfl⟩ : ∃ j : Nat, i = j := ⟨i.toNat, by omega⟩
      have hj : j < ns.length := by omega
      refine kn_seq (kn_asg (we_op (we_op (we_var rfl (we_cI (ob_ix0 (j := 0) rfl (we_op (we_var rfl (we_cI (ob_ix (j := 0) (m := 0) rfl rfl rfl (oy_ixL (atI_nat (List.getElem?_eq_getElem hj)) ?_)))))))))))
      try dsimp only
      refine kn_seq (kb_set (i := 0) (m := 0) (j := 0) rfl (we_op (we_op (we_var rfl (we_cI (ob_ix (j := 0) (m := 0) rfl rfl rfl (we_cI (ops_I0 (we_cI ⟨_, _, rfl, rfl, rfl, by simp, rfl, ?_⟩)))))))))
      try dsimp only
      refine kn_if (wt_test (we_op (we_var rfl (we_op (we_cI (we_cI (ops_IC ⟨by decide, by decide, by decide⟩ (ops_B0 ⟨_, rfl, ⟨fun _ => ?_, fun _ => ?_⟩⟩))))))))
      · refine kb_set (i := 0) (m := 1) (j := 0) rfl (we_var rfl (we_cI ⟨_, _, rfl, rfl, rfl, by simp, rfl, ?_⟩))
        exact kn_mid ⟨_, by and_intros, _, _, _, by omega, rfl, rfl⟩
      · refine kb_set (i := 0) (m := 3) (j := 0) rfl (we_op (we_cb (wa_cons (we_op (we_op (we_op (we_var rfl (we_cI (ob_ix (j := 0) (m := 3) rfl rfl rfl (we_cI (ops_IC (.inr ⟨by decide, by decide⟩) (we_var rfl (ops_I0 (wa_nil (cb_int (we_cI (ops_IC (C := fun _ j => j ≠ 0) (by decide) (we_cI ⟨_, _, rfl, rfl, rfl, by simp, rfl, ?_⟩))))))))))))))))))
        exact kn_mid ⟨_, by and_intros, _, _, _, by omega, rfl, rfl⟩
    · refine kn_next ?_
      exact kn_mid ⟨_, by and_intros, i, c, r, hi, rfl, rfl⟩
  · rintro Γ Θ ⟨i, c, r, hi, rfl, rfl⟩
    have fin : ∀ {fr' : L2.Fr} {is : List Int} {v : Int}, FrLe fr fr' → is.length = 4 → (∀ i, is[0]? = some i → 0 ≤ i) → 0 ≤ v → v < m → Rt fr' [cBg b l ns is] Qv (iz zI v) := fun {fr' is v} le h1 h2 h3 h4 => rt_bag (j := 0) rfl h1 h2 ((hret.fine le) _ (h v h3 h4) _ (.head _))
    have le0 : FrLe fr fr := ⟨rfl, rfl, Same.refl _, fun a o h => .inl ⟨o, h⟩⟩
    refine kn_seq (kn_if (wt_test (we_op (we_op (we_var rfl (we_cI (ob_ix (j := 0) (m := 1) rfl rfl rfl (we_cI (ops_B0 ⟨_, rfl, ⟨fun hc => ?_, fun hc => ?_⟩⟩)))))))))
    · have hc : c > 0 := of_decide_eq_true hc
      refine kn_seq (kn_asg (we_op (we_cb (wa_cons (we_op (we_var rfl (we_cI (ob_ix (j := 0) (m := 1) rfl rfl rfl (wa_nil (cb_int (we_var rfl (ops_IC (C := fun _ j => j ≠ 0) (by omega) ?_))))))))))))
      try dsimp only
      refine kn_seq (kb_set (i := 0) (m := 1) (j := 0) rfl (we_op (we_op (we_var rfl (we_cI (ob_ix (j := 0) (m := 1) rfl rfl rfl (we_var rfl (ops_IC (wide_div (b := 200) m0 (big200 m0 m1) (by decide) (by decide)) (we_cI ⟨_, _, rfl, rfl, rfl, by simp, rfl, ?_⟩)))))))))
      try dsimp only
      refine kn_ret (we_var rfl ?_)
      have fb := fmod_box (x := c) m0
      exact fin le0 rfl (fun j hj => by cases hj; exact hi) fb.1 fb.2
    · refine kn_next ?_
      try dsimp only
      refine kn_seq (kb_set (i := 0) (m := 3) (j := 0) rfl (we_op (we_cb (wa_cons (we_op (we_op (we_op (we_op (we_var rfl (we_cI (ob_ix (j := 0) (m := 3) rfl rfl rfl (we_cI (ops_IC (.inr ⟨by decide, by decide⟩) (we_op (we_op (we_var rfl (we_cI (ob_ix (j := 0) (m := 2) rfl rfl rfl (we_cI (ops_IC (.inr ⟨by decide, by decide⟩) (ops_I0 (we_cI (ops_I0 (wa_nil (cb_int (we_cI (ops_IC (C := fun _ j => j ≠ 0) (by decide) (we_cI ⟨_, _, rfl, rfl, rfl, by simp, rfl, ?_⟩))))))))))))))))))))))))))))
      try dsimp only
      refine kn_ret (we_op (we_cb (wa_cons (we_op (we_op (we_cb (wa_cons (we_op (we_op (we_op (we_var rfl (we_cI (ob_ix (j := 0) (m := 3) rfl rfl rfl (we_cI (ops_IC (.inr ⟨by decide, by decide⟩) (we_op (we_op (we_var rfl (we_cI (ob_ix (j := 0) (m := 2) rfl rfl rfl (we_cI (ops_IC (.inr ⟨by decide, by decide⟩) (ops_I0 (wa_nil (cb_int (we_cI (ops_IC (C := fun _ j => j ≠ 0) (by decide) (we_cI (ops_IC ⟨by decide, by decide⟩ (wa_nil (cb_int (we_var rfl (ops_IC (C := fun _ j => j ≠ 0) (by omega) ?_)))))))))))))))))))))))))))))))))
      have fb := fmod_box (x := Int.fdiv (Int.fmod (Int.fmod (r * 48271 + (n + 1) * 69621 + 11) 2147483647 * 16807 + (n + 1) * 40692) 2147483629) 5) m0
      exact fin le0 rfl (fun j hj => by cases hj; exact hi) fb.1 fb.2
end
abbrev zRatio (C_Ratio : Addr) : Rep (Int × Int) := zIn C_Ratio fun x => [("top", iz zI x.1), ("bottom", iz zI x.2)]
section
variable {P : Program} {w : World} {K : PySem.W.Frag} {mg : Str → Option Value} {base : Heap}
abbrev s_common_divisor : Stmt := topS 9
theorem sc_common_divisor : FnScope ["first", "second", "large", "small"] ["first", "second"] (defScope s_common_divisor) := ⟨rfl, rfl, rfl, by decide +kernel, rfl, by decide +kernel, by decide +kernel⟩
def m_common_divisor (p_first : Int) (p_second : Int) : DM Int := fun Q X =>
  whileD ((if p_first < 0 then -p_first else p_first), (if p_second < 0 then -p_second else p_second)) (fun s1 nx bk =>
  ifD (!decide (s1.2 = (0 : Int))) (
  s1.2 ≠ 0 ∧
  nx (s1.2, (Int.fmod s1.1 s1.2))) (bk s1)) (fun s1 =>
  Q s1.1)
theorem ok_common_divisor {k : Nat} {cs : EK → Addr} (B : Bl mg) 
    (F : Src K mg "common_divisor" s_common_divisor ["first", "second"]) : Def P w K mg base CX0 (k + 1) "common_divisor" ["first", "second"] (spA (preW (erW cs) (fun x : Int × Int => [iz zI x.1, iz zI x.2]) zI (fun x => m_common_divisor x.1 x.2))) := by
  refine F.okW sc_common_divisor (fun _ => rfl) (fun f cdv A outer s H E x Q X hr h => ⟨_, (pss_cons (ps_par (i := 2) (j := 3) (by rfl) sc_common_divisor.nd rfl rfl (by decide) rfl rfl (pa_cons (pe_callB call_abs (by rfl) B.abs (by decide +kernel) (pa_cons (pv 0) pa_nil)) (pa_cons (pe_callB call_abs (by rfl) B.abs (by decide +kernel) (pa_cons (pv 1) pa_nil)) pa_nil)) (by rfl))
 (pss_cons (ps_while PassesOwn.never (pt_cmpR op_ne (pv 3) pe_int (nomark _)) (pss_one (ps_par (i := 2) (j := 3) (by rfl) sc_common_divisor.nd rfl rfl (by decide) rfl rfl (pa_cons (pv 3) (pa_cons (pe_op op_modN (pv 2) (pv 3)) pa_nil)) (by rfl))))
 (pss_one (ps_ret (pv 2))))), fun fr Qv hret => ?_⟩)
  obtain ⟨p_first, p_second⟩ := x
  replace h : m_common_divisor p_first p_second Q X := h
  unfold m_common_divisor at h
  refine kn_seq (kn_par (i := 2) (j := 3) (wa_cons (we_cb (wa_cons (we_var rfl (wa_nil (cb_abs (wa_cons (we_cb (wa_cons (we_var rfl (wa_nil (cb_abs (wa_nil (⟨_, _, rfl, ?_⟩)))))))))))))))
  try dsimp only
  refine kn_seq (kn_whileW (S := Int × Int) (fun s1 => [some (iz zI p_first), some (iz zI p_second), some (iz zI s1.1), some (iz zI s1.2)]) (fun s1 => []) ((if p_first < 0 then -p_first else p_first), (if p_second < 0 then -p_second else p_second)) h (by and_intros) rfl (fun s1 nx M hnx hbk h => ?_) (fun s1 h => ?_))
  · refine wt_test (we_op (we_var rfl (we_cI (ops_neI (⟨_, rfl, ⟨fun hc => ?_, fun hc => hbk _ _ _ (h.2 hc) (by and_intros) rfl⟩⟩)))))
    have h := h.1 hc
    refine kn_par (i := 2) (j := 3) (wa_cons (we_var rfl (wa_cons (we_op (we_var rfl (we_var rfl ?_))))))
    obtain ⟨g2, h⟩ := h
    refine ops_IC (C := fun _ j => j ≠ 0) g2 (wa_nil (⟨_, _, rfl, ?_⟩))
    exact hnx (s1.2, (Int.fmod s1.1 s1.2)) _ _ h (by and_intros) rfl
  try dsimp only
  refine kn_ret (we_var rfl ?_)
  exact hret _ h _
abbrev s_Ratio___init__ : Stmt := inClass (topS 12) 0
theorem sc_Ratio___init__ : FnScope ["self", "top", "bottom", "divisor"] ["self", "top", "bottom"] (defScope s_Ratio___init__) := ⟨rfl, rfl, rfl, by decide +kernel, rfl, by decide +kernel, by decide +kernel⟩
def m_Ratio___init__ (p_top : Int) (p_bottom : Int) : DM (Int × Int) := fun Q X =>
  ifD (decide (p_bottom = (0 : Int))) (
  X (.badNumber (0 : Int))) (
  m_common_divisor p_top p_bottom (fun v1 =>
  joinD (fun j3 =>
  ifD (decide (p_bottom < (0 : Int))) (
  ∀ divisor4, divisor4 = (-v1) →
  j3 divisor4) (
  j3 v1)) (fun s2 : Int =>
  CDivZ p_top s2 ∧
  CDivZ p_bottom s2 ∧
  Q ((Int.fdiv p_top s2), (Int.fdiv p_bottom s2)))) noX)
theorem ok_Ratio___init__ {k : Nat} {cs : EK → Addr} {f_BadNumber C_Ratio : Addr} (B : Bl mg) (T_Ratio : ClsA K mg C_Ratio "Ratio" ["top", "bottom"]) (D_common_divisor : Def P w K mg base CX0 k "common_divisor" ["first", "second"] (spA (preW (erW cs) (fun x : Int × Int => [iz zI x.1, iz zI x.2]) zI (fun x => m_common_divisor x.1 x.2)))) (X_BadNumber : ErrTxt P K mg false "BadNumber" (cs .badNumber) f_BadNumber ["number"])
    (F : SrcI K C_Ratio "Ratio.__init__" s_Ratio___init__ ["self", "top", "bottom"]) : DefI P w K mg base (L2.CX P w) (k + 1) C_Ratio ["self", "top", "bottom"] (spI C_Ratio (preW (erW cs) (fun x : Int × Int => [iz zI x.1, iz zI x.2]) (zRatio C_Ratio) (fun x => m_Ratio___init__ x.1 x.2))) := by
  refine F.okW sc_Ratio___init__ (fun _ => rfl) (fun f cdv A outer s H E x Q X hr h => ⟨_, (pss_cons (ps_if (pt_cmpR op_eq (pv 2) pe_int (nomark _)) (pss_one (ps_raiseE rfl X_BadNumber hr (takes_of rfl rfl rfl rfl) (pa_cons pe_int pa_nil))) pss_nil)
 (pss_cons (ps_asg (pe_def D_common_divisor hr pass0 (pa_cons (pv 1) (pa_cons (pv 2) pa_nil))) (pg_name (i := 3) sc_Ratio___init__.nd rfl (Or.inl rfl)))
 (C8.pss_cut (ps_if (pt_cmpR op_lt (pv 2) pe_int (nomark _)) (pss_one (ps_asg (pe_un un_neg (pv 3)) (pg_name (i := 3) sc_Ratio___init__.nd rfl (Or.inl rfl)))) pss_nil)
 (pss_cons (kps_fld (K := K) (pv 0) (pe_op op_fdivZ (pv 1) (pv 3)))
 (pss_one (kps_fld (K := K) (pv 0) (pe_op op_fdivZ (pv 2) (pv 3)))))))), fun fr x0 dx0 Qn rt hinit hrse => ?_⟩)
  obtain ⟨p_top, p_bottom⟩ := x
  replace h : m_Ratio___init__ p_top p_bottom Q X := h
  unfold m_Ratio___init__ at h
  refine kn_seq (kn_if (wt_test (we_op (we_var rfl (we_cI (ops_eqI (⟨_, rfl, ⟨fun hc => ?_, fun hc => ?_⟩⟩)))))))
  · have h := h.1 hc
    refine kn_raiseY (wa_cons (we_cI (wa_nil ?_)))
    exact ⟨rfl, (fun h => nomatch h), hrse _ h _ _⟩
  · have h := h.2 hc
    refine kn_next ?_
    try dsimp only
    refine kn_seq (kn_asg (i := 3) (we_callE (wa_cons (we_var rfl (wa_cons (we_var rfl (wa_nil ?_)))))))
    refine sps_W0 (p_top, p_bottom) h (fun v1 h => ?_)
    try dsimp only
    refine kn_cutW (S := Int) (fun s2 => [some (zAt x0), some (iz zI p_top), some (iz zI p_bottom), some (iz zI s2)]) (fun s2 => [cI x0 C_Ratio dx0 []]) h (fun M hjn h => ?_) (fun s2 h => ?_)
    · refine kn_if (wt_test (we_op (we_var rfl (we_cI (ops_B0 (⟨_, rfl, ⟨fun hc => ?_, fun hc => ?_⟩⟩))))))
      · have h := h.1 hc
        refine kn_asgL (i := 3) (r := zI) (we_un (we_var rfl (uns_I (⟨_, rfl, fun divisor4 edivisor4 => ?_⟩))))
        have h := h divisor4 edivisor4
        exact hjn divisor4 _ _ h (by and_intros) rfl
      · have h := h.2 hc
        refine kn_next ?_
        exact hjn v1 _ _ h (by and_intros) rfl
    try dsimp only
    refine kn_seq (kn_putF T_Ratio.toClsF (by decide) (we_op (we_var rfl (we_var rfl ?_))))
    obtain ⟨g5, h⟩ := h
    refine ops_IC g5 (we_var rfl (⟨_, _, _, 0, rfl, rfl, Nat.le_of_ble_eq_true rfl, ?_⟩))
    try dsimp only
    refine kn_putF T_Ratio.toClsF (by decide) (we_op (we_var rfl (we_var rfl ?_)))
    obtain ⟨g6, h⟩ := h
    refine ops_IC g6 (we_var rfl (⟨_, _, _, 0, rfl, rfl, Nat.le_of_ble_eq_true rfl, ?_⟩))
    exact hinit _ h _ _ 0 _ rfl
abbrev s_Ratio___str__ : Stmt := inClass (topS 12) 19
theorem sc_Ratio___str__ : FnScope ["self"] ["self"] (defScope s_Ratio___str__) := ⟨rfl, rfl, rfl, by decide +kernel, rfl, by decide +kernel, by decide +kernel⟩
def m_Ratio___str__ (p_self : (Int × Int)) : DM Str := fun Q X =>
  ifD (decide (p_self.2 = (1 : Int))) (
  CStr p_self.1 ∧
  Q (numS p_self.1)) (
  CStr p_self.1 ∧
  (Str.empty).length + ((numS p_self.1)).length ≤ big ∧
  ((Str.empty ++ (numS p_self.1))).length + (("/" : Str)).length ≤ big ∧
  CStr p_self.2 ∧
  (((Str.empty ++ (numS p_self.1)) ++ ("/" : Str))).length + ((numS p_self.2)).length ≤ big ∧
  ((((Str.empty ++ (numS p_self.1)) ++ ("/" : Str)) ++ (numS p_self.2))).length ≤ big ∧
  Q (((Str.empty ++ (numS p_self.1)) ++ ("/" : Str)) ++ (numS p_self.2)))
theorem ok_Ratio___str__ {k : Nat} {cs : EK → Addr} {C_Ratio : Addr} (B : Bl mg) (T_Ratio : ClsA K mg C_Ratio "Ratio" ["top", "bottom"])
    (F : SrcM K C_Ratio "__str__" "Ratio.__str__" s_Ratio___str__ ["self"]) : DefM P w K mg base CX0 (k + 1) C_Ratio "__str__" ["self"] (spA (preW (erW cs) (fun x : (Int × Int) => [iz (zRatio C_Ratio) x]) yS (fun x => m_Ratio___str__ x))) := by
  refine F.okW sc_Ratio___str__ (fun _ => rfl) (fun f cdv A outer s H E p_self Q X hr h => ⟨_, (pss_cons (ps_if (pt_cmpR op_eq (kpe_fld (K := K) (pv 0)) pe_int (nomark _)) (pss_one (ps_ret (pe_callTy call_str_int (by rfl) B.str' (by decide +kernel) (pa_cons (kpe_fld (K := K) (pv 0)) pa_nil)))) pss_nil)
 (pss_one (ps_ret (pe_joined (.cons (pe_fmt (kpe_fld (K := K) (pv 0))) (.cons pe_str (.cons (pe_fmt (kpe_fld (K := K) (pv 0))) .nil))))))), fun fr Qv hret => ?_⟩)
  replace h : m_Ratio___str__ p_self Q X := h
  unfold m_Ratio___str__ at h
  refine kn_seq (kn_if (wt_test (we_op (we_fld (we_var rfl (⟨_, fld_in T_Ratio.toClsF (by decide) rfl, we_cI (ops_eqI (⟨_, rfl, ⟨fun hc => ?_, fun hc => ?_⟩⟩))⟩))))))
  · have h := h.1 hc
    refine kn_ret (we_cb (wa_cons (we_fld (we_var rfl (⟨_, fld_in T_Ratio.toClsF (by decide) rfl, wa_nil ?_⟩)))))
    obtain ⟨g1, h⟩ := h
    refine cy_str g1 ?_
    exact hret _ h _
  · have h := h.2 hc
    refine kn_next ?_
    try dsimp only
    refine kn_ret (we_fs (wj_cons (we_fmtI (we_fld (we_var rfl (⟨_, fld_in T_Ratio.toClsF (by decide) rfl, ?_⟩))))))
    obtain ⟨g2, h⟩ := h
    refine ⟨_, rfl, g2, ?_⟩
    obtain ⟨g3, h⟩ := h
    refine ⟨_, rfl, g3, wj_cons (we_cSy (z := "/") (asc_of (by decide)) (by decide) ?_)⟩
    obtain ⟨g4, h⟩ := h
    refine ⟨_, rfl, g4, wj_cons (we_fmtI (we_fld (we_var rfl (⟨_, fld_in T_Ratio.toClsF (by decide) rfl, ?_⟩))))⟩
    obtain ⟨g5, h⟩ := h
    refine ⟨_, rfl, g5, ?_⟩
    obtain ⟨g6, h⟩ := h
    refine ⟨_, rfl, g6, ?_⟩
    obtain ⟨g7, h⟩ := h
    refine wj_nil (⟨g7, ?_⟩)
    exact hret _ h _
end
section
variable {P : Program} {w : World} {K : PySem.W.Frag} {mg : Str → Option Value} {base : Heap}
abbrev s_check_number : Stmt := topS 14
theorem sc_check_number : FnScope ["number", "least", "most"] ["number", "least", "most"] (defScope s_check_number) := ⟨rfl, rfl, rfl, by decide +kernel, rfl, by decide +kernel, by decide +kernel⟩
def m_check_number (p_number : Int) (p_least : Int) (p_most : Int) : DM Int := fun Q X =>
  ifD ((decide (p_number < p_least)) || (decide (p_number > p_most))) (
  X (.badNumber p_number)) (
  Q p_number)
theorem ok_check_number {k : Nat} {cs : EK → Addr} {f_BadNumber : Addr} (B : Bl mg) (X_BadNumber : ErrTxt P K mg false "BadNumber" (cs .badNumber) f_BadNumber ["number"])
    (F : Src K mg "check_number" s_check_number ["number", "least", "most"]) : Def P w K mg base (L2.CX P w) (k + 1) "check_number" ["number", "least", "most"] (spA (preW (erW cs) (fun x : Int × Int × Int => [iz zI x.1, iz zI x.2.1, iz zI x.2.2]) zI (fun x => m_check_number x.1 x.2.1 x.2.2))) := by
  refine F.okWX sc_check_number (fun _ => rfl) (fun f cdv A outer s H E x Q X hr h => ⟨_, (pss_cons (ps_if (PW.pt (pw_or (pt_cmpR op_lt (pv 0) (pv 1) (nomark _)) (pw_or1 (pt_cmpR op_gt (pv 0) (pv 2) (nomark _))))) (pss_one (ps_raiseE rfl X_BadNumber hr (takes_of rfl rfl rfl rfl) (pa_cons (pv 0) pa_nil))) pss_nil)
 (pss_one (ps_ret (pv 0)))), fun fr Qv hret hrse => ?_⟩)
  obtain ⟨p_number, p_least, p_most⟩ := x
  replace h : m_check_number p_number p_least p_most Q X := h
  unfold m_check_number at h
  refine kn_seq (kn_if (wt_orP (wt_test (we_op (we_var rfl (we_var rfl (ops_B0 (⟨_, rfl, ⟨_, fun _ => wt_test (we_op (we_var rfl (we_var rfl (ops_B0 (⟨_, rfl, ⟨rfl, rfl⟩⟩))))), ⟨fun hc => ?_, fun hc => ?_⟩⟩⟩))))))))
  · have h := h.1 hc
    refine kn_raiseY (wa_cons (we_var rfl (wa_nil ?_)))
    exact ⟨rfl, (fun h => nomatch h), hrse _ h _ _⟩
  · have h := h.2 hc
    refine kn_next ?_
    try dsimp only
    refine kn_ret (we_var rfl ?_)
    exact hret _ h _
abbrev s_check_size : Stmt := topS 18
theorem sc_check_size : FnScope ["rows"] ["rows"] (defScope s_check_size) := ⟨rfl, rfl, rfl, by decide +kernel, rfl, by decide +kernel, by decide +kernel⟩
def m_check_size (p_rows : (List (List Int))) : DM Unit := fun Q X =>
  ifD (decide (((p_rows).length : Int) > (40 : Int))) (
  X (.tooMany ("rows" : Str) (40 : Int))) (
  andD (!(p_rows).isEmpty) (fun k3 => ∃ v4, atI p_rows (0 : Int) = some v4 ∧
  k3 (decide (((v4).length : Int) > (40 : Int)))) (fun c2 =>
  ifD c2 (
  X (.tooMany ("columns" : Str) (40 : Int))) (
  Q ())))
theorem ok_check_size {k : Nat} {cs : EK → Addr} {f_TooMany : Addr} (B : Bl mg) (g_MOST : Glo mg "MOST" (.int (40 : Int))) (X_TooMany : ErrTxt P K mg true "TooMany" (cs .tooMany) f_TooMany ["kind", "limit"])
    (F : Src K mg "check_size" s_check_size ["rows"]) : Def P w K mg base (L2.CX P w) (k + 1) "check_size" ["rows"] (spA (preW (erW cs) (fun x : (List (List Int)) => [iz (yL (yL zI)) x]) yN (fun x => m_check_size x))) := by
  refine F.okWX sc_check_size (fun _ => rfl) (fun f cdv A outer s H E p_rows Q X hr h => ⟨_, (pss_cons (ps_if (pt_cmpR op_gt (pe_callB (kcall_len (K := K)) (by rfl) B.len PySem.boot_len (pa_cons (pv 0) pa_nil)) (pe_glo g_MOST) (nomark _)) (pss_one (ps_raiseE rfl X_TooMany hr (takes_of rfl rfl rfl rfl) (pa_cons pe_str (pa_cons (pe_glo g_MOST) pa_nil)))) pss_nil)
 (pss_one (ps_if (PW.pt (pw_and (kpt_truth (Kf := K) (pv 0) (by intro _; rfl)) (pw_and1 (pt_cmpR op_gt (pe_callB (kcall_len (K := K)) (by rfl) B.len PySem.boot_len (pa_cons (pe_ix (kix_list (K := K)) (pv 0) pe_int (fun _ _ => rfl)) pa_nil)) (pe_glo g_MOST) (nomark _))))) (pss_one (ps_raiseE rfl X_TooMany hr (takes_of rfl rfl rfl rfl) (pa_cons pe_str (pa_cons (pe_glo g_MOST) pa_nil)))) pss_nil))), fun fr Qv hret hrse => ?_⟩)
  replace h : m_check_size p_rows Q X := h
  unfold m_check_size at h
  refine kn_seq (kn_if (wt_test (we_op (we_cb (wa_cons (we_var rfl (wa_nil (cy_len sy_L (fun e1 => (we_cI (ops_B0 (⟨_, rfl, ⟨fun hc => ?_, fun hc => ?_⟩⟩))))))))))))
  · have h := h.1 hc
    refine kn_raiseY (wa_cons (we_cSy (z := "rows") (asc_of (by decide)) (by decide) (wa_cons (we_cI (wa_nil ?_)))))
    exact ⟨rfl, (fun _ => ⟨_, _, rfl, by decide⟩), hrse _ h _ _⟩
  · have h := h.2 hc
    refine kn_next ?_
    try dsimp only
    refine kn_if (wt_andC (wt_tru (we_var rfl (⟨_, ty_L', ?_⟩))))
    refine andK h (fun h => ?_) (fun c2 h => ?_)
    · refine wt_test (we_op (we_cb (wa_cons (we_op (we_var rfl (we_cI ?_))))))
      obtain ⟨v4, ev4, h⟩ := h
      refine oy_ixL ev4 (wa_nil (cy_len sy_L (fun e5 => (we_cI (ops_B0 (⟨_, rfl, ?_⟩))))))
      exact ⟨rfl, h⟩
    refine ⟨fun hc => ?_, fun hc => ?_⟩
    · have h := h.1 hc
      refine kn_raiseY (wa_cons (we_cSy (z := "columns") (asc_of (by decide)) (by decide) (wa_cons (we_cI (wa_nil ?_)))))
      exact ⟨rfl, (fun _ => ⟨_, _, rfl, by decide⟩), hrse _ h _ _⟩
    · have h := h.2 hc
      refine kn_next ?_
      exact kn_fall (hret _ h _)
abbrev s_check_row : Stmt := topS 19
theorem sc_check_row : FnScope ["row", "number"] ["row"] (defScope s_check_row) := ⟨rfl, rfl, rfl, by decide +kernel, rfl, by decide +kernel, by decide +kernel⟩
def m_check_row (p_row : (List Int)) : DM Unit := fun Q X =>
  forD p_row () (fun x2 s1 nx bk =>
  m_check_number x2 (-(1000000 : Int)) (1000000 : Int) (fun v4 =>
  nx ()) X) (fun s1 =>
  Q ())
theorem ok_check_row {k : Nat} {cs : EK → Addr} (B : Bl mg) (D_check_number : Def P w K mg base (L2.CX P w) k "check_number" ["number", "least", "most"] (spA (preW (erW cs) (fun x : Int × Int × Int => [iz zI x.1, iz zI x.2.1, iz zI x.2.2]) zI (fun x => m_check_number x.1 x.2.1 x.2.2)))) (g_LARGEST : Glo mg "LARGEST" (.int (1000000 : Int)))
    (F : Src K mg "check_row" s_check_row ["row"]) : Def P w K mg base (L2.CX P w) (k + 1) "check_row" ["row"] (spA (preW (erW cs) (fun x : (List Int) => [iz (yL zI) x]) yN (fun x => m_check_row x))) := by
  refine F.okWX sc_check_row (fun _ => rfl) (fun f cdv A outer s H E p_row Q X hr h => ⟨_, (pss_one (ps_for (passes_of rfl) rfl (kpi_list (K := K) (pv 0)) (pg_name (i := 1) sc_check_row.nd rfl (Or.inl rfl)) (pss_one (ps_expr (pe_def D_check_number hr (passes_call (takes_of rfl rfl rfl rfl) (fun _ _ _ _ h => h)) (pa_cons (pv 1) (pa_cons (pe_un un_neg (pe_glo g_LARGEST)) (pa_cons (pe_glo g_LARGEST) pa_nil)))))))), fun fr Qv hret hrse => ?_⟩)
  replace h : m_check_row p_row Q X := h
  unfold m_check_row at h
  refine kn_forW (r := zI) (S := Unit) (fun s1 => [some (iz (yL zI) p_row), none]) (fun s1 => []) () (wi_yL (we_var rfl (⟨_, _, _, rfl, fun e3 => ⟨_, _, _, _, _, rfl, rfl, (by and_intros), fun _ _ => tg_name, h, fun fr' le x2 s1 nx M hnx hbk h => ?_, fun s1 h => ?_⟩⟩)))
  · have hret := hret.fine le
    have hrse := hrse.fine le
    refine kn_drop (we_callE (wa_cons (we_var rfl (wa_cons (we_un (we_cI (uns_I (wa_cons (we_cI (wa_nil ?_))))))))))
    refine sps_WE hrse (x2, (-(1000000 : Int)), (1000000 : Int)) h (fun v4 h => ?_)
    exact hnx () _ _ h (by and_intros) rfl
  exact kn_fall (hret _ h _)
abbrev s_lowered : Stmt := topS 20
theorem sc_lowered : FnScope ["row", "divisor", "number"] ["row"] (defScope s_lowered) := ⟨rfl, rfl, rfl, by decide +kernel, rfl, by decide +kernel, by decide +kernel⟩
def m_lowered (p_row : (List Int)) : DM (List Int) := fun Q X =>
  forD p_row (0 : Int) (fun x2 s1 nx bk =>
  m_common_divisor s1 x2 (fun v4 =>
  ifD (decide (v4 = (1 : Int))) (
  Q p_row) (
  nx v4)) noX) (fun s1 =>
  ifD (decide (s1 = (0 : Int))) (
  Q p_row) (
  mapD p_row [] (fun x5 k6 =>
  CDivZ x5 s1 ∧
  k6 (Int.fdiv x5 s1)) (fun ys7 =>
  Q ys7)))
theorem ok_lowered {k : Nat} {cs : EK → Addr} (B : Bl mg) (D_common_divisor : Def P w K mg base CX0 k "common_divisor" ["first", "second"] (spA (preW (erW cs) (fun x : Int × Int => [iz zI x.1, iz zI x.2]) zI (fun x => m_common_divisor x.1 x.2))))
    (F : Src K mg "lowered" s_lowered ["row"]) : Def P w K mg base CX0 (k + 1) "lowered" ["row"] (spA (preW (erW cs) (fun x : (List Int) => [iz (yL zI) x]) (yL zI) (fun x => m_lowered x))) := by
  refine F.okW sc_lowered (fun _ => rfl) (fun f cdv A outer s H E p_row Q X hr h => ⟨_, (pss_cons (ps_asg pe_int (pg_name (i := 1) sc_lowered.nd rfl (Or.inr rfl)))
 (pss_cons (ps_for PassesOwn.never rfl (kpi_list (K := K) (pv 0)) (pg_name (i := 2) sc_lowered.nd rfl (Or.inl rfl)) (pss_cons (ps_asg (pe_def D_common_divisor hr pass0 (pa_cons (pv 1) (pa_cons (pv 2) pa_nil))) (pg_name (i := 1) sc_lowered.nd rfl (Or.inr rfl)))
 (pss_one (ps_if (pt_cmpR op_eq (pv 1) pe_int (nomark _)) (pss_one (ps_ret (pv 0))) pss_nil))))
 (pss_cons (ps_if (pt_cmpR op_eq (pv 1) pe_int (nomark _)) (pss_one (ps_ret (pv 0))) pss_nil)
 (pss_one (ps_ret (pe_lc (own := [("number", 2)]) (g := gName 2) (by rfl) sc_lowered.nd (kpi_list (K := K) (pv 0)) (blkOk_by (N := ["row", "divisor", "number"]) (sc := defScope s_lowered) (by decide +kernel)) (fun _ _ _ _ _ => (pg_name (i := 2) sc_lowered.nd rfl (Or.inl rfl))) (fun _ _ _ _ _ => pts_nil) (fun _ _ _ _ _ => (pe_op op_fdivZ (pv 2) (pv 1))))))))), fun fr Qv hret => ?_⟩)
  replace h : m_lowered p_row Q X := h
  unfold m_lowered at h
  refine kn_seq (kn_asg (i := 1) (we_cI ?_))
  try dsimp only
  refine kn_seq (kn_forW (r := zI) (S := Int) (fun s1 => [some (iz (yL zI) p_row), some (iz zI s1), none]) (fun s1 => []) (0 : Int) (wi_yL (we_var rfl (⟨_, _, _, rfl, fun e3 => ⟨_, _, _, _, _, rfl, rfl, (by and_intros), fun _ _ => tg_name, h, fun fr' le x2 s1 nx M hnx hbk h => ?_, fun s1 h => ?_⟩⟩))))
  · have hret := hret.fine le
    refine kn_seq (kn_asg (i := 1) (we_callE (wa_cons (we_var rfl (wa_cons (we_var rfl (wa_nil ?_)))))))
    refine sps_W0 (s1, x2) h (fun v4 h => ?_)
    try dsimp only
    refine kn_if (wt_test (we_op (we_var rfl (we_cI (ops_eqI (⟨_, rfl, ⟨fun hc => ?_, fun hc => ?_⟩⟩))))))
    · have h := h.1 hc
      refine kn_ret (we_var rfl ?_)
      exact hret _ h _
    · have h := h.2 hc
      refine kn_next ?_
      exact hnx v4 _ _ h (by and_intros) rfl
  try dsimp only
  refine kn_seq (kn_if (wt_test (we_op (we_var rfl (we_cI (ops_eqI (⟨_, rfl, ⟨fun hc => ?_, fun hc => ?_⟩⟩)))))))
  · have h := h.1 hc
    refine kn_ret (we_var rfl ?_)
    exact hret _ h _
  · have h := h.2 hc
    refine kn_next ?_
    try dsimp only
    refine kn_ret (we_lcM (r := zI) (s := zI) (wi_yL (we_var rfl (⟨_, _, _, rfl, fun e8 => ⟨_, _, _, _, rfl, rfl, e8, fun _ => tg_name, h, fun x5 c k6 h => ?_, fun ys7 h eys7 => ?_⟩⟩))))
    · refine we_op (we_var rfl (we_var rfl ?_))
      obtain ⟨g10, h⟩ := h
      refine ops_IC g10 ?_
      exact ⟨rfl, _, rfl, h⟩
    exact hret _ h _
abbrev s_combined : Stmt := topS 21
theorem sc_combined : FnScope ["row", "lead", "column", "up", "down", "number", "other"] ["row", "lead", "column"] (defScope s_combined) := ⟨rfl, rfl, rfl, by decide +kernel, rfl, by decide +kernel, by decide +kernel⟩
def m_combined (p_row : (List Int)) (p_lead : (List Int)) (p_column : Int) : DM (List Int) := fun Q X =>
  ∃ v1, atI p_lead p_column = some v1 ∧
  ∃ v2, atI p_row p_column = some v2 ∧
  mapD (p_row.zip p_lead) [] (fun x3 k4 =>
  CMulW x3.1 ((v1, v2).1) ∧
  CMulW x3.2 ((v1, v2).2) ∧
  k4 ((x3.1 * (v1, v2).1) - (x3.2 * (v1, v2).2))) (fun ys5 =>
  m_lowered ys5 (fun v10 =>
  Q v10) noX)
theorem ok_combined {k : Nat} {cs : EK → Addr} (B : Bl mg) (D_lowered : Def P w K mg base CX0 k "lowered" ["row"] (spA (preW (erW cs) (fun x : (List Int) => [iz (yL zI) x]) (yL zI) (fun x => m_lowered x))))
    (F : Src K mg "combined" s_combined ["row", "lead", "column"]) : Def P w K mg base CX0 (k + 1) "combined" ["row", "lead", "column"] (spA (preW (erW cs) (fun x : (List Int) × (List Int) × Int => [iz (yL zI) x.1, iz (yL zI) x.2.1, iz zI x.2.2]) (yL zI) (fun x => m_combined x.1 x.2.1 x.2.2))) := by
  refine F.okW sc_combined (fun _ => rfl) (fun f cdv A outer s H E x Q X hr h => ⟨_, (pss_cons (ps_asg (pe_tup (pa_cons (pe_ix (kix_list (K := K)) (pv 1) (pv 2) (fun _ _ => rfl)) (pa_cons (pe_ix (kix_list (K := K)) (pv 0) (pv 2) (fun _ _ => rfl)) pa_nil))) (kpg_tup (K := K) (n := 2) rfl (pgs_cons (pg_name (i := 3) sc_combined.nd rfl (Or.inr rfl)) (pgs_cons (pg_name (i := 4) sc_combined.nd rfl (Or.inr rfl)) pgs_nil))))
 (pss_one (ps_ret (pe_def D_lowered hr pass0 (pa_cons (pe_lc (own := [("number", 5), ("other", 6)]) (by rfl) sc_combined.nd (RZ.pi_zipA (by rfl) B.zip (pa_cons (pv 0) (pa_cons (pv 1) pa_nil))) (blkOk_by (N := ["row", "lead", "column", "up", "down", "number", "other"]) (sc := defScope s_combined) (by decide +kernel)) (fun _ _ _ _ _ => (kpg_tup (K := K) (n := 2) rfl (pgs_cons (pg_name (i := 5) sc_combined.nd rfl (Or.inl rfl)) (pgs_cons (pg_name (i := 6) sc_combined.nd rfl (Or.inl rfl)) pgs_nil)))) (fun _ _ _ _ _ => pts_nil) (fun _ _ _ _ _ => (pe_op op_sub (pe_op op_mulW (pv 5) (pv 3)) (pe_op op_mulW (pv 6) (pv 4))))) pa_nil))))), fun fr Qv hret => ?_⟩)
  obtain ⟨p_row, p_lead, p_column⟩ := x
  replace h : m_combined p_row p_lead p_column Q X := h
  unfold m_combined at h
  refine kn_seq (kn_asgT (we_tup (wa_cons (we_op (we_var rfl (we_var rfl ?_))))))
  obtain ⟨v1, ev1, h⟩ := h
  refine oy_ixL ev1 (wa_cons (we_op (we_var rfl (we_var rfl ?_))))
  obtain ⟨v2, ev2, h⟩ := h
  refine oy_ixL ev2 (wa_nil (⟨Nat.le_of_ble_eq_true rfl, iz (z2 zI zI) (v1, v2), tr2, ⟨_, _, tg2 (by decide), ?_⟩⟩))
  refine kn_nrm (Γ' := [some (iz (yL zI) p_row), some (iz (yL zI) p_lead), some (iz zI p_column), some (iz zI ((v1, v2).1)), some (iz zI ((v1, v2).2)), none, none]) rfl ?_
  try dsimp only
  refine kn_ret (we_callE (wa_cons (we_lcM (r := (z2 zI zI)) (s := zI) (wi_zipL (wa_cons (we_var rfl (wa_cons (we_var rfl (wa_nil (⟨_, _, _, _, _, _, rfl, fun e6 => ⟨_, _, _, _, rfl, rfl, e6, fun _ => tg2 (by decide), h, fun x3 c k4 h => ?_, fun ys5 h eys5 => ?_⟩⟩))))))))))
  · refine we_op (we_op (we_var rfl (we_var rfl ?_)))
    obtain ⟨g8, h⟩ := h
    refine ops_IC g8 (we_op (we_var rfl (we_var rfl ?_)))
    obtain ⟨g9, h⟩ := h
    refine ops_IC g9 (ops_I0 ?_)
    exact ⟨rfl, _, rfl, h⟩
  refine wa_nil ?_
  refine sps_W0 ys5 h (fun v10 h => ?_)
  exact hret _ h _
end
section
variable {P : Program} {w : World} {K : PySem.W.Frag} {mg : Str → Option Value} {base : Heap}
abbrev s_lead_columns : Stmt := topS 22
theorem sc_lead_columns : FnScope ["table", "columns", "leads", "column", "found", "at", "lead", "other"] ["table", "columns"] (defScope s_lead_columns) := ⟨rfl, rfl, rfl, by decide +kernel, rfl, by decide +kernel, by decide +kernel⟩
def m_lead_columns (p_table : (List (List Int))) (p_columns : Int) : DM ((List Int) × (List (List Int))) := fun Q X =>
  (-100000 ≤ p_columns ∧ p_columns ≤ 100000) ∧
  forD (intsF 0 (p_columns).toNat) (p_table, []) (fun x3 s2 nx bk =>
  ∀ found6, found6 = ((s2.2).length : Int) →
  whileD found6 (fun s7 nx bk =>
  andD (decide (s7 < ((s2.1).length : Int))) (fun k11 => ∃ v12, atI s2.1 s7 = some v12 ∧
  ∃ v13, atI v12 x3 = some v13 ∧
  k11 (decide (v13 = (0 : Int)))) (fun c10 =>
  ifD c10 (
  nx (s7 + (1 : Int))) (bk s7))) (fun s7 =>
  ifD (decide (s7 = ((s2.1).length : Int))) (
  nx (s2.1, s2.2)) (
  ∀ at16, at16 = ((s2.2).length : Int) →
  ∃ v17, atI s2.1 s7 = some v17 ∧
  ∃ v18, atI s2.1 at16 = some v18 ∧
  ∃ m19, ixN (s2.1).length at16 = some m19 ∧
  ∃ m20, ixN (s2.1).length s7 = some m20 ∧
  ∃ v21, atI ((((s2.1).set m19 (v17, v18).1)).set m20 (v17, v18).2) at16 = some v21 ∧
  forD (intsF 0 (((((((s2.1).set m19 (v17, v18).1)).set m20 (v17, v18).2)).length : Int)).toNat) ((((s2.1).set m19 (v17, v18).1)).set m20 (v17, v18).2) (fun x23 s22 nx bk =>
  andD (!decide (x23 = at16)) (fun k26 => ∃ v27, atI s22 x23 = some v27 ∧
  ∃ v28, atI v27 x3 = some v28 ∧
  k26 (!decide (v28 = (0 : Int)))) (fun c25 =>
  ifD c25 (
  ∃ v29, atI s22 x23 = some v29 ∧
  m_combined v29 v21 x3 (fun v30 =>
  ∃ m31, ixN (s22).length x23 = some m31 ∧
  nx ((s22).set m31 v30)) noX) (
  nx s22))) (fun s22 =>
  (s2.2).length < big ∧
  nx (s22, (s2.2 ++ [x3])))))) (fun s2 =>
  Q (s2.2, s2.1))
theorem ok_lead_columns {k : Nat} {cs : EK → Addr} (B : Bl mg) (D_combined : Def P w K mg base CX0 k "combined" ["row", "lead", "column"] (spA (preW (erW cs) (fun x : (List Int) × (List Int) × Int => [iz (yL zI) x.1, iz (yL zI) x.2.1, iz zI x.2.2]) (yL zI) (fun x => m_combined x.1 x.2.1 x.2.2))))
    (F : Src K mg "lead_columns" s_lead_columns ["table", "columns"]) : Def P w K mg base CX0 (k + 1) "lead_columns" ["table", "columns"] (spC (preL (erW cs) (fun (as : List Addr) (x : (List (List Int)) × Int) => [zAt (ad as 0), iz zI x.2]) (fun (as : List Addr) (x : (List (List Int)) × Int) => [cY (ad as 0) (yL zI) x.1]) (yL zI) (fun (as : List Addr) (x : (List (List Int)) × Int) (g : (List (List Int))) => [cY (ad as 0) (yL zI) g]) (fun x : (List (List Int)) × Int => m_lead_columns x.1 x.2))) := by
  refine F.okL sc_lead_columns (fun _ _ => rfl) (fun as x c hc => by
    simp only [List.mem_cons, List.not_mem_nil, or_false] at hc
    rcases hc with rfl <;> rfl) (fun _ _ _ => rfl) (fun f cdv A outer s H E as x Q X hr h => ⟨_, (pss_cons (ps_asg (pe_lst pa_nil) (pg_name (i := 2) sc_lead_columns.nd rfl (Or.inl rfl)))
 (pss_cons (ps_for PassesOwn.never rfl (pi_range1 (by rfl) B.range (pa_cons (pv 1) pa_nil)) (pg_name (i := 3) sc_lead_columns.nd rfl (Or.inl rfl)) (pss_cons (ps_asg (pe_callB (kcall_len (K := K)) (by rfl) B.len PySem.boot_len (pa_cons (pv 2) pa_nil)) (pg_name (i := 4) sc_lead_columns.nd rfl (Or.inl rfl)))
 (pss_cons (ps_while PassesOwn.never (PW.pt (pw_and (pt_cmpR op_lt (pv 4) (pe_callB (kcall_len (K := K)) (by rfl) B.len PySem.boot_len (pa_cons (pv 0) pa_nil)) (nomark _)) (pw_and1 (pt_cmpR op_eq (pe_ix (kix_list (K := K)) (pe_ix (kix_list (K := K)) (pv 0) (pv 4) (fun _ _ => rfl)) (pv 3) (fun _ _ => rfl)) pe_int (nomark _))))) (pss_one (ps_aug (i := 4) sc_lead_columns.nd rfl (Or.inl rfl) pe_int ip_add)))
 (pss_cons (ps_if (pt_cmpR op_eq (pv 4) (pe_callB (kcall_len (K := K)) (by rfl) B.len PySem.boot_len (pa_cons (pv 0) pa_nil)) (nomark _)) (pss_one ps_continue) pss_nil)
 (pss_cons (ps_asg (pe_callB (kcall_len (K := K)) (by rfl) B.len PySem.boot_len (pa_cons (pv 2) pa_nil)) (pg_name (i := 5) sc_lead_columns.nd rfl (Or.inl rfl)))
 (pss_cons (ps_asg (pe_tup (pa_cons (pe_ix (kix_list (K := K)) (pv 0) (pv 4) (fun _ _ => rfl)) (pa_cons (pe_ix (kix_list (K := K)) (pv 0) (pv 5) (fun _ _ => rfl)) pa_nil))) (kpg_tup (K := K) (n := 2) rfl (pgs_cons (pg_sub (pv 0) (pv 5) set_list) (pgs_cons (pg_sub (pv 0) (pv 4) set_list) pgs_nil))))
 (pss_cons (ps_asg (pe_ix (kix_list (K := K)) (pv 0) (pv 5) (fun _ _ => rfl)) (pg_name (i := 6) sc_lead_columns.nd rfl (Or.inl rfl)))
 (pss_cons (ps_for PassesOwn.never rfl (pi_range1 (by rfl) B.range (pa_cons (pe_callB (kcall_len (K := K)) (by rfl) B.len PySem.boot_len (pa_cons (pv 0) pa_nil)) pa_nil)) (pg_name (i := 7) sc_lead_columns.nd rfl (Or.inl rfl)) (pss_one (ps_if (PW.pt (pw_and (pt_cmpR op_ne (pv 7) (pv 5) (nomark _)) (pw_and1 (pt_cmpR op_ne (pe_ix (kix_list (K := K)) (pe_ix (kix_list (K := K)) (pv 0) (pv 7) (fun _ _ => rfl)) (pv 3) (fun _ _ => rfl)) pe_int (nomark _))))) (pss_one (ps_asg (pe_def D_combined hr pass0 (pa_cons (pe_ix (kix_list (K := K)) (pv 0) (pv 7) (fun _ _ => rfl)) (pa_cons (pv 6) (pa_cons (pv 3) pa_nil)))) (pg_sub (pv 0) (pv 7) set_list))) pss_nil)))
 (pss_one (ps_expr (pe_bm PySem.F.plainAttrs_list PySem.F.slot_list_append PySem.F.type_list_append mt_append (pv 2) (pa_cons (pv 3) pa_nil))))))))))))
 (pss_one (ps_ret (pv 2))))), fun fr Qv hret => ?_⟩)
  obtain ⟨p_table, p_columns⟩ := x
  replace h : m_lead_columns p_table p_columns Q X := h
  unfold m_lead_columns at h
  refine kn_seq (kn_asg (i := 2) (we_ownY zI (wa_nil (⟨[], rfl, Nat.le_of_ble_eq_true rfl, fun a1 => ?_⟩))))
  refine kn_nrm (Γ' := [some (zAt (ad as 0)), some (iz zI p_columns), some (zAt a1), none, none, none, none, none]) rfl ?_
  try dsimp only
  refine kn_seq (kn_forW (r := zI) (S := (List (List Int)) × (List Int)) (fun s2 => [some (zAt (ad as 0)), some (iz zI p_columns), some (zAt a1), none, none, none, none, none]) (fun s2 => [cY a1 zI s2.2, cY (ad as 0) (yL zI) s2.1]) (p_table, []) (wi_range (wa_cons (we_var rfl (wa_nil ?_)))))
  obtain ⟨g4, h⟩ := h
  refine ⟨_, rfl, (by have hb : big = 100000 := rfl; omega), (by have hb : big = 100000 := rfl; omega), ⟨_, _, _, _, _, rfl, rfl, (by and_intros), fun _ _ => tg_name, h, fun fr' le x3 s2 nx M hnx hbk h => ?_, fun s2 h => ?_⟩⟩
  · have hret := hret.fine le
    refine kn_seq (kn_asgL (i := 4) (r := zI) (we_cb (wa_cons (we_var rfl (wa_nil (cy_len (sy_C (j := 0) rfl) (fun e5 => (⟨_, rfl, fun found6 efound6 => ?_⟩))))))))
    have h := h found6 efound6
    refine kn_nrm (Γ' := [some (zAt (ad as 0)), some (iz zI p_columns), some (zAt a1), some (iz zI x3), some (iz zI found6), none, none, none]) rfl ?_
    try dsimp only
    refine kn_seq (kn_whileW (S := Int) (fun s7 => [some (zAt (ad as 0)), some (iz zI p_columns), some (zAt a1), some (iz zI x3), some (iz zI s7), none, none, none]) (fun s7 => [cY a1 zI s2.2, cY (ad as 0) (yL zI) s2.1]) found6 h (by and_intros) rfl (fun s7 nx M hnx hbk h => ?_) (fun s7 h => ?_))
    · refine wt_andC (wt_test (we_op (we_var rfl (we_cb (wa_cons (we_var rfl (wa_nil (cy_len (sy_C (j := 1) rfl) (fun e9 => (ops_B0 (⟨_, rfl, ?_⟩)))))))))))
      refine andK h (fun h => ?_) (fun c10 h => ?_)
      · refine wt_test (we_op (we_op (we_op (we_var rfl (we_var rfl ?_)))))
        obtain ⟨v12, ev12, h⟩ := h
        refine oy_ixC (j := 1) rfl ev12 (we_var rfl ?_)
        obtain ⟨v13, ev13, h⟩ := h
        refine oy_ixL ev13 (we_cI (ops_eqI (⟨_, rfl, ?_⟩)))
        exact ⟨rfl, h⟩
      refine ⟨fun hc => ?_, fun hc => hbk _ _ _ (h.2 hc) (by and_intros) rfl⟩
      have h := h.1 hc
      refine kn_augI (i := 4) rfl (we_cI (⟨_, rfl, ?_⟩))
      exact hnx (s7 + (1 : Int)) _ _ h (by and_intros) rfl
    try dsimp only
    refine kn_seq (kn_if (wt_test (we_op (we_var rfl (we_cb (wa_cons (we_var rfl (wa_nil (cy_len (sy_C (j := 1) rfl) (fun e14 => (ops_eqI (⟨_, rfl, ⟨fun hc => ?_, fun hc => ?_⟩⟩))))))))))))
    · have h := h.1 hc
      refine kn_cont ?_
      exact hnx (s2.1, s2.2) _ _ h (by and_intros) rfl
    · have h := h.2 hc
      refine kn_next ?_
      try dsimp only
      refine kn_seq (kn_asgL (i := 5) (r := zI) (we_cb (wa_cons (we_var rfl (wa_nil (cy_len (sy_C (j := 0) rfl) (fun e15 => (⟨_, rfl, fun at16 eat16 => ?_⟩))))))))
      have h := h at16 eat16
      refine kn_nrm (Γ' := [some (zAt (ad as 0)), some (iz zI p_columns), some (zAt a1), some (iz zI x3), some (iz zI s7), some (iz zI at16), none, none]) rfl ?_
      try dsimp only
      refine kn_seq (kn_swapY (r := (yL zI)) (xs := s2.1) (i := 0) (j := 1) rfl (we_tup (wa_cons (we_op (we_var rfl (we_var rfl ?_))))))
      obtain ⟨v17, ev17, h⟩ := h
      refine oy_ixC (j := 1) rfl ev17 (wa_cons (we_op (we_var rfl (we_var rfl ?_))))
      obtain ⟨v18, ev18, h⟩ := h
      refine oy_ixC (j := 1) rfl ev18 (wa_nil (⟨Nat.le_of_ble_eq_true rfl, iz (z2 (yL zI) (yL zI)) (v17, v18), tr2, ⟨_, _, rfl, we_var rfl ?_⟩⟩))
      obtain ⟨m19, em19, h⟩ := h
      refine ⟨_, _, rfl, rfl, em19, we_var rfl ?_⟩
      obtain ⟨m20, em20, h⟩ := h
      refine ⟨_, _, rfl, rfl, em20, ?_⟩
      refine kn_nrm (Γ' := [some (zAt (ad as 0)), some (iz zI p_columns), some (zAt a1), some (iz zI x3), some (iz zI s7), some (iz zI at16), none, none]) rfl ?_
      try dsimp only
      refine kn_seq (kn_asg (i := 6) (we_op (we_var rfl (we_var rfl ?_))))
      obtain ⟨v21, ev21, h⟩ := h
      refine oy_ixC (j := 1) rfl ev21 ?_
      refine kn_nrm (Γ' := [some (zAt (ad as 0)), some (iz zI p_columns), some (zAt a1), some (iz zI x3), some (iz zI s7), some (iz zI at16), some (iz (yL zI) v21), none]) rfl ?_
      try dsimp only
      refine kn_seq (kn_forW (r := zI) (S := (List (List Int))) (fun s22 => [some (zAt (ad as 0)), some (iz zI p_columns), some (zAt a1), some (iz zI x3), some (iz zI s7), some (iz zI at16), some (iz (yL zI) v21), none]) (fun s22 => [cY a1 zI s2.2, cY (ad as 0) (yL zI) s22]) ((((s2.1).set m19 (v17, v18).1)).set m20 (v17, v18).2) (wi_range (wa_cons (we_cb (wa_cons (we_var rfl (wa_nil (cy_len (sy_C (j := 1) rfl) (fun e24 => (wa_nil (⟨_, rfl, (by have hb : big = 100000 := rfl; omega), (by have hb : big = 100000 := rfl; omega), ⟨_, _, _, _, _, rfl, rfl, (by and_intros), fun _ _ => tg_name, h, fun fr' le x23 s22 nx M hnx hbk h => ?_, fun s22 h => ?_⟩⟩)))))))))))
      · have hret := hret.fine le
        refine kn_if (wt_andC (wt_test (we_op (we_var rfl (we_var rfl (ops_neI (⟨_, rfl, ?_⟩)))))))
        refine andK h (fun h => ?_) (fun c25 h => ?_)
        · refine wt_test (we_op (we_op (we_op (we_var rfl (we_var rfl ?_)))))
          obtain ⟨v27, ev27, h⟩ := h
          refine oy_ixC (j := 1) rfl ev27 (we_var rfl ?_)
          obtain ⟨v28, ev28, h⟩ := h
          refine oy_ixL ev28 (we_cI (ops_neI (⟨_, rfl, ?_⟩)))
          exact ⟨rfl, h⟩
        refine ⟨fun hc => ?_, fun hc => ?_⟩
        · have h := h.1 hc
          refine kn_setY (r := (yL zI)) (xs := s22) (i := 0) (j := 1) rfl (we_callE (wa_cons (we_op (we_var rfl (we_var rfl ?_)))))
          obtain ⟨v29, ev29, h⟩ := h
          refine oy_ixC (j := 1) rfl ev29 (wa_cons (we_var rfl (wa_cons (we_var rfl (wa_nil ?_)))))
          refine sps_W0 (v29, v21, x3) h (fun v30 h => ?_)
          refine we_var rfl ?_
          obtain ⟨m31, em31, h⟩ := h
          refine ⟨_, _, _, rfl, rfl, rfl, em31, ?_⟩
          exact hnx ((s22).set m31 v30) _ _ h (by and_intros) rfl
        · have h := h.2 hc
          refine kn_next ?_
          exact hnx s22 _ _ h (by and_intros) rfl
      try dsimp only
      refine kn_appY (i := 2) (j := 0) rfl rfl (we_var rfl ?_)
      obtain ⟨g32, h⟩ := h
      refine ⟨_, rfl, rfl, g32, ?_⟩
      exact hnx (s22, (s2.2 ++ [x3])) _ _ h (by and_intros) rfl
  try dsimp only
  refine kn_ret (we_var rfl ?_)
  exact rt_frzY (j := 0) rfl (hret _ s2.1 h _ _ (permD 0 _))
end
section
variable {P : Program} {w : World} {K : PySem.W.Frag} {mg : Str → Option Value} {base : Heap}
abbrev s_barred : Stmt := topS 23
theorem sc_barred : FnScope ["rows", "wished", "columns", "table", "at", "row", "marks", "leads", "other", "mark"] ["rows", "wished", "columns"] (defScope s_barred) := ⟨rfl, rfl, rfl, by decide +kernel, rfl, by decide +kernel, by decide +kernel⟩
def m_barred (p_rows : (List (List Int))) (p_wished : (List Int)) (p_columns : Int) : DM (List (Int × Int)) := fun Q X =>
  forD (enL p_rows) ([]) (fun x3 s2 nx bk =>
  ∀ marks7, marks7 = (((intsF 0 (((p_rows).length : Int)).toNat)).map fun x5 => (if (decide (x3.1 = x5)) then 1 else 0 : Int)) →
  ∃ v8, atI p_wished x3.1 = some v8 ∧
  ((x3.2 ++ (v8 :: (marks7 ++ [])))).length ≤ 1000 ∧
  (s2).length < big ∧
  nx (s2 ++ [(x3.2 ++ (v8 :: (marks7 ++ [])))])) (fun s2 =>
  m_lead_columns s2 p_columns (fun r11 =>
  forD (cutX r11.2 (some ((r11.1).length : Int)) none) () (fun x13 s12 nx bk =>
  ∃ v16, atI x13 p_columns = some v16 ∧
  ifD (!decide (v16 = (0 : Int))) (
  mapD (cutX x13 (some (p_columns + (1 : Int))) none) [] (fun x17 k18 =>
  ∃ v22, atI x13 p_columns = some v22 ∧
  m_Ratio___init__ x17 v22 (fun v23 =>
  k18 v23) noX) (fun ys19 =>
  Q ys19)) (
  nx ())) (fun s12 =>
  Q ([]))) noX)
theorem ok_barred {k : Nat} {cs : EK → Addr} {C_Ratio : Addr} (B : Bl mg) (D_lead_columns : Def P w K mg base CX0 (k + 1) "lead_columns" ["table", "columns"] (spC (preL (erW cs) (fun (as : List Addr) (x : (List (List Int)) × Int) => [zAt (ad as 0), iz zI x.2]) (fun (as : List Addr) (x : (List (List Int)) × Int) => [cY (ad as 0) (yL zI) x.1]) (yL zI) (fun (as : List Addr) (x : (List (List Int)) × Int) (g : (List (List Int))) => [cY (ad as 0) (yL zI) g]) (fun x : (List (List Int)) × Int => m_lead_columns x.1 x.2)))) (m_Ratio : mg "Ratio" = some (.ref C_Ratio)) (DI_Ratio : DefI P w K mg base (L2.CX P w) k C_Ratio ["self", "top", "bottom"] (spI C_Ratio (preW (erW cs) (fun x : Int × Int => [iz zI x.1, iz zI x.2]) (zRatio C_Ratio) (fun x => m_Ratio___init__ x.1 x.2))))
    (F : Src K mg "barred" s_barred ["rows", "wished", "columns"]) : Def P w K mg base (L2.CX P w) (k + 2) "barred" ["rows", "wished", "columns"] (spA (preW (erW cs) (fun x : (List (List Int)) × (List Int) × Int => [iz (yL (yL zI)) x.1, iz (yL zI) x.2.1, iz zI x.2.2]) (yL (zRatio C_Ratio)) (fun x => m_barred x.1 x.2.1 x.2.2))) := by
  refine F.okWX sc_barred (fun _ => rfl) (fun f cdv A outer s H E x Q X hr h => ⟨_, (pss_cons (ps_asg (pe_lst pa_nil) (pg_name (i := 3) sc_barred.nd rfl (Or.inl rfl)))
 (pss_cons (ps_for (passes_of rfl) rfl (pi_enum (by rfl) B.enumerate (pa_cons (pv 0) pa_nil)) (kpg_tup (K := K) (n := 2) rfl (pgs_cons (pg_name (i := 4) sc_barred.nd rfl (Or.inr rfl)) (pgs_cons (pg_name (i := 5) sc_barred.nd rfl (Or.inr rfl)) pgs_nil))) (pss_cons (ps_setLc (i := 6) (own := [("other", 8)]) (g := gName 8) (by rfl) sc_barred.nd rfl rfl (sw_true rfl rfl rfl (by decide +kernel)) (pi_range1 (by rfl) B.range (pa_cons (pe_callB (kcall_len (K := K)) (by rfl) B.len PySem.boot_len (pa_cons (pv 0) pa_nil)) pa_nil)) (blkOk_by (N := ["rows", "wished", "columns", "table", "at", "row", "marks", "leads", "other", "mark"]) (sc := defScope s_barred) (by decide +kernel)) (fun _ _ _ _ _ => (pg_name (i := 8) sc_barred.nd rfl (Or.inl rfl))) (fun _ _ _ _ _ => pts_nil) (fun _ _ _ _ _ => (pe_callTy call_int1 (by rfl) B.int' (by decide +kernel) (pa_cons (pe_cmpR op_eq (pv 4) (pv 8) (nomark _)) pa_nil))))
 (pss_one (ps_expr (pe_bm PySem.F.plainAttrs_list PySem.F.slot_list_append PySem.F.type_list_append mt_append (pv 3) (pa_cons (pe_lst (kpa_star (K := K) (pv 5) (pa_cons (pe_ix (kix_list (K := K)) (pv 1) (pv 4) (fun _ _ => rfl)) (kpa_star (K := K) (pv 6) pa_nil)))) pa_nil))))))
 (pss_cons (ps_asg (pe_def D_lead_columns hr pass0 (pa_cons (pv 3) (pa_cons (pv 2) pa_nil))) (pg_name (i := 7) sc_barred.nd rfl (Or.inl rfl)))
 (pss_cons (ps_for (passes_of rfl) rfl (kpi_list (K := K) (pe_slice (ksl_list (K := K)) (pv 3) (po_some (pe_callB (kcall_len (K := K)) (by rfl) B.len PySem.boot_len (pa_cons (pv 7) pa_nil))) po_none)) (pg_name (i := 5) sc_barred.nd rfl (Or.inr rfl)) (pss_one (ps_if (pt_cmpR op_ne (pe_ix (kix_list (K := K)) (pv 5) (pv 2) (fun _ _ => rfl)) pe_int (nomark _)) (pss_one (ps_ret (pe_lc (own := [("mark", 9)]) (g := gName 9) (by rfl) sc_barred.nd (kpi_list (K := K) (pe_slice (ksl_list (K := K)) (pv 5) (po_some (pe_op op_add (pv 2) pe_int)) po_none)) (blkOk_by (N := ["rows", "wished", "columns", "table", "at", "row", "marks", "leads", "other", "mark"]) (sc := defScope s_barred) (by decide +kernel)) (fun _ _ _ _ _ => (pg_name (i := 9) sc_barred.nd rfl (Or.inl rfl))) (fun _ _ _ _ _ => pts_nil) (fun _ _ _ _ _ => (pe_mkD DI_Ratio m_Ratio hr (fun σ => Passes.at passL σ) (pa_cons (pv 9) (pa_cons (pe_ix (kix_list (K := K)) (pv 5) (pv 2) (fun _ _ => rfl)) pa_nil))))))) pss_nil)))
 (pss_one (ps_ret (pe_lst pa_nil))))))), fun fr Qv hret hrse => ?_⟩)
  obtain ⟨p_rows, p_wished, p_columns⟩ := x
  replace h : m_barred p_rows p_wished p_columns Q X := h
  unfold m_barred at h
  refine kn_seq (kn_asg (i := 3) (we_ownY (yL zI) (wa_nil (⟨[], rfl, Nat.le_of_ble_eq_true rfl, fun a1 => ?_⟩))))
  refine kn_nrm (Γ' := [some (iz (yL (yL zI)) p_rows), some (iz (yL zI) p_wished), some (iz zI p_columns), some (zAt a1), none, none, none, none, none, none]) rfl ?_
  try dsimp only
  refine kn_seq (kn_forW (r := (z2 zI (yL zI))) (S := (List (List Int))) (fun s2 => [some (iz (yL (yL zI)) p_rows), some (iz (yL zI) p_wished), some (iz zI p_columns), some (zAt a1), none, none, none, none, none, none]) (fun s2 => [cY a1 (yL zI) s2]) ([]) (wi_enumL (wa_cons (we_var rfl (wa_nil (⟨_, _, _, rfl, fun e4 => ⟨_, _, _, _, _, rfl, rfl, (by and_intros), fun _ _ => tg2 (by decide), h, fun fr' le x3 s2 nx M hnx hbk h => ?_, fun s2 h => ?_⟩⟩))))))
  · have hret := hret.fine le
    have hrse := hrse.fine le
    refine kn_seq (kn_asgL (i := 6) (r := (yL zI)) (we_lcM0 (r := zI) (s := zI) (wi_range (wa_cons (we_cb (wa_cons (we_var rfl (wa_nil (cy_len sy_L (fun e6 => (wa_nil (⟨_, rfl, (by have hb : big = 100000 := rfl; omega), (by have hb : big = 100000 := rfl; omega), ⟨_, fun x5 => (if (decide (x3.1 = x5)) then 1 else 0 : Int), _, rfl, rfl, (intsF_big (by have hb : big = 100000 := rfl; omega)), fun x5 => tg_name, fun x5 c => we_cb (wa_cons (we_op (we_var rfl (we_var rfl (ops_eqI (wa_nil (cy_intB (⟨rfl, rfl⟩)))))))), ⟨_, rfl, fun marks7 emarks7 => ?_⟩⟩⟩))))))))))))
    have h := h marks7 emarks7
    refine kn_nrm (Γ' := [some (iz (yL (yL zI)) p_rows), some (iz (yL zI) p_wished), some (iz zI p_columns), some (zAt a1), some (iz zI x3.1), some (iz (yL zI) x3.2), some (iz (yL zI) marks7), none, none, none]) rfl ?_
    try dsimp only
    refine kn_appY (i := 3) (j := 0) rfl rfl (we_lstY (r := zI) (wa_star (we_var rfl (⟨_, _, _, rfl, wa_cons (we_op (we_var rfl (we_var rfl ?_)))⟩))))
    obtain ⟨v8, ev8, h⟩ := h
    refine oy_ixL ev8 (wa_star (we_var rfl (⟨_, _, _, rfl, wa_nil ?_⟩)))
    obtain ⟨g9, h⟩ := h
    refine ⟨(x3.2 ++ (v8 :: (marks7 ++ []))), by simp only [List.map_cons, List.map_append, List.map_nil], g9, ?_⟩
    obtain ⟨g10, h⟩ := h
    refine ⟨_, rfl, rfl, g10, ?_⟩
    exact hnx (s2 ++ [(x3.2 ++ (v8 :: (marks7 ++ [])))]) _ _ h (by and_intros) rfl
  try dsimp only
  refine kn_seq (kn_asg (i := 7) (we_callE (wa_cons (we_var rfl (wa_cons (we_var rfl (wa_nil ?_)))))))
  refine sps_LP0 [a1] (s2, p_columns) (fun g => [cY a1 (yL zI) g]) ((perm_at (j := 0) rfl).trans (.cons _ (.refl _))) (fun g => (perm_at (j := 0) rfl).trans (.cons _ (.refl _))) h (fun r11 h => ?_)
  try dsimp only
  refine kn_nrm (Γ' := [some (iz (yL (yL zI)) p_rows), some (iz (yL zI) p_wished), some (iz zI p_columns), some (zAt a1), none, none, none, some (iz (yL zI) r11.1), none, none]) rfl ?_
  try dsimp only
  refine kn_frzY (i := 3) (j := 0) rfl rfl ?_
  refine kn_seq (kn_forW (r := (yL zI)) (S := Unit) (fun s12 => [some (iz (yL (yL zI)) p_rows), some (iz (yL zI) p_wished), some (iz zI p_columns), some (iz (yL (yL zI)) r11.2), none, none, none, some (iz (yL zI) r11.1), none, none]) (fun s12 => []) () (wi_yL (we_sl (we_var rfl (wo_some (we_cb (wa_cons (we_var rfl (wa_nil (cy_len sy_L (fun e14 => (⟨_, rfl, wo_none (sy_slL (⟨_, _, _, rfl, fun e15 => ⟨_, _, _, _, _, rfl, rfl, (by and_intros), fun _ _ => tg_name, h, fun fr' le x13 s12 nx M hnx hbk h => ?_, fun s12 h => ?_⟩⟩))⟩))))))))))))
  · have hret := hret.fine le
    have hrse := hrse.fine le
    refine kn_if (wt_test (we_op (we_op (we_var rfl (we_var rfl ?_)))))
    obtain ⟨v16, ev16, h⟩ := h
    refine oy_ixL ev16 (we_cI (ops_neI (⟨_, rfl, ⟨fun hc => ?_, fun hc => ?_⟩⟩)))
    · have h := h.1 hc
      refine kn_ret (we_lcM (r := zI) (s := (zRatio C_Ratio)) (wi_yL (we_sl (we_var rfl (wo_some (we_op (we_var rfl (we_cI (ops_I0 (⟨_, rfl, wo_none (sy_slL (⟨_, _, _, rfl, fun e20 => ⟨_, _, _, _, rfl, rfl, e20, fun _ => tg_name, h, fun x17 c k18 h => ?_, fun ys19 h eys19 => ?_⟩⟩))⟩))))))))))
      · refine we_mkP (wa_cons (we_var rfl (wa_cons (we_op (we_var rfl (we_var rfl ?_))))))
        obtain ⟨v22, ev22, h⟩ := h
        refine oy_ixL ev22 (wa_nil ?_)
        refine mkW0 (x17, v22) h (fun v23 h => ?_)
        exact ⟨rfl, _, rfl, h⟩
      exact hret _ h _
    · have h := h.2 hc
      refine kn_next ?_
      exact hnx () _ _ h (by and_intros) rfl
  try dsimp only
  refine kn_ret (we_lstY (r := (zRatio C_Ratio)) (wa_nil (⟨[], rfl, Nat.le_of_ble_eq_true rfl, ?_⟩)))
  exact hret _ h _
abbrev s_solved : Stmt := topS 24
theorem sc_solved : FnScope ["rows", "wished", "columns", "table", "leads", "numbers", "at", "column", "row", "number"] ["rows", "wished"] (defScope s_solved) := ⟨rfl, rfl, rfl, by decide +kernel, rfl, by decide +kernel, by decide +kernel⟩
def m_solved (p_rows : (List (List Int))) (p_wished : (List Int)) : DM (Str × (List (Int × Int))) := fun Q X =>
  joinD (fun k1 =>
  ifD (!(p_rows).isEmpty) (∃ v3, atI p_rows (0 : Int) = some v3 ∧
  k1 ((v3).length : Int)) (k1 (0 : Int))) (fun v2 : Int =>
  mapD (p_rows.zip p_wished) [] (fun x5 k6 =>
  ((x5.1 ++ (x5.2 :: []))).length ≤ 1000 ∧
  k6 (x5.1 ++ (x5.2 :: []))) (fun ys7 =>
  m_lead_columns ys7 v2 (fun r11 =>
  mapD (cutX r11.2 (some ((r11.1).length : Int)) none) [] (fun x12 k13 =>
  ∃ v18, atI x12 v2 = some v18 ∧
  k13 (!decide (v18 = (0 : Int)))) (fun ys14 =>
  ifD ((ys14).any id) (
  m_barred p_rows p_wished v2 (fun v19 =>
  Q (("BARRED" : Str), v19)) X) (
  m_Ratio___init__ (0 : Int) (1 : Int) (fun v20 =>
  (-1000000 ≤ v2 ∧ v2 ≤ (big : Nat)) ∧
  forD (enL r11.1) (List.replicate (v2).toNat v20) (fun x24 s23 nx bk =>
  ∃ v26, atI r11.2 x24.1 = some v26 ∧
  ∃ v27, atI v26 v2 = some v27 ∧
  ∃ v28, atI r11.2 x24.1 = some v28 ∧
  ∃ v29, atI v28 x24.2 = some v29 ∧
  m_Ratio___init__ v27 v29 (fun v30 =>
  ∃ m31, ixN (s23).length x24.2 = some m31 ∧
  nx ((s23).set m31 v30)) X) (fun s23 =>
  Q (("SOLVED" : Str), s23))) X))) noX))
theorem ok_solved {k : Nat} {cs : EK → Addr} {C_Ratio : Addr} (B : Bl mg) (D_lead_columns : Def P w K mg base CX0 (k + 1) "lead_columns" ["table", "columns"] (spC (preL (erW cs) (fun (as : List Addr) (x : (List (List Int)) × Int) => [zAt (ad as 0), iz zI x.2]) (fun (as : List Addr) (x : (List (List Int)) × Int) => [cY (ad as 0) (yL zI) x.1]) (yL zI) (fun (as : List Addr) (x : (List (List Int)) × Int) (g : (List (List Int))) => [cY (ad as 0) (yL zI) g]) (fun x : (List (List Int)) × Int => m_lead_columns x.1 x.2)))) (D_barred : Def P w K mg base (L2.CX P w) (k + 1) "barred" ["rows", "wished", "columns"] (spA (preW (erW cs) (fun x : (List (List Int)) × (List Int) × Int => [iz (yL (yL zI)) x.1, iz (yL zI) x.2.1, iz zI x.2.2]) (yL (zRatio C_Ratio)) (fun x => m_barred x.1 x.2.1 x.2.2)))) (LI_Ratio : DflI K C_Ratio ["self", "top", "bottom"] [.int (1 : Int)]) (m_Ratio : mg "Ratio" = some (.ref C_Ratio)) (DI_Ratio : DefI P w K mg base (L2.CX P w) k C_Ratio ["self", "top", "bottom"] (spI C_Ratio (preW (erW cs) (fun x : Int × Int => [iz zI x.1, iz zI x.2]) (zRatio C_Ratio) (fun x => m_Ratio___init__ x.1 x.2))))
    (F : Src K mg "solved" s_solved ["rows", "wished"]) : Def P w K mg base (L2.CX P w) (k + 2) "solved" ["rows", "wished"] (spA (preW (erW cs) (fun x : (List (List Int)) × (List Int) => [iz (yL (yL zI)) x.1, iz (yL zI) x.2]) (z2 yS (yL (zRatio C_Ratio))) (fun x => m_solved x.1 x.2))) := by
  refine F.okWX sc_solved (fun _ => rfl) (fun f cdv A outer s H E x Q X hr h => ⟨_, (pss_cons (ps_asg (pe_ifExp (kpt_truth (Kf := K) (pv 0) (by intro _; rfl)) (pe_callB (kcall_len (K := K)) (by rfl) B.len PySem.boot_len (pa_cons (pe_ix (kix_list (K := K)) (pv 0) pe_int (fun _ _ => rfl)) pa_nil)) pe_int) (pg_name (i := 2) sc_solved.nd rfl (Or.inr rfl)))
 (pss_cons (ps_setLc (i := 3) (own := [("row", 8), ("number", 9)]) (by rfl) sc_solved.nd rfl rfl (sw_true rfl rfl rfl (by decide +kernel)) (RZ.pi_zipA (by rfl) B.zip (pa_cons (pv 0) (pa_cons (pv 1) pa_nil))) (blkOk_by (N := ["rows", "wished", "columns", "table", "leads", "numbers", "at", "column", "row", "number"]) (sc := defScope s_solved) (by decide +kernel)) (fun _ _ _ _ _ => (kpg_tup (K := K) (n := 2) rfl (pgs_cons (pg_name (i := 8) sc_solved.nd rfl (Or.inl rfl)) (pgs_cons (pg_name (i := 9) sc_solved.nd rfl (Or.inl rfl)) pgs_nil)))) (fun _ _ _ _ _ => pts_nil) (fun _ _ _ _ _ => (pe_lst (kpa_star (K := K) (pv 8) (pa_cons (pv 9) pa_nil)))))
 (pss_cons (ps_asg (pe_def D_lead_columns hr pass0 (pa_cons (pv 3) (pa_cons (pv 2) pa_nil))) (pg_name (i := 4) sc_solved.nd rfl (Or.inl rfl)))
 (pss_cons (ps_if (pt_val (pe_callB (kcr_any (K := K) rfl) (by rfl) B.any' (by decide +kernel) (pa_cons (pe_lc (own := [("row", 8)]) (g := gName 8) (by rfl) sc_solved.nd (kpi_list (K := K) (pe_slice (ksl_list (K := K)) (pv 3) (po_some (pe_callB (kcall_len (K := K)) (by rfl) B.len PySem.boot_len (pa_cons (pv 4) pa_nil))) po_none)) (blkOk_by (N := ["rows", "wished", "columns", "table", "leads", "numbers", "at", "column", "row", "number"]) (sc := defScope s_solved) (by decide +kernel)) (fun _ _ _ _ _ => (pg_name (i := 8) sc_solved.nd rfl (Or.inl rfl))) (fun _ _ _ _ _ => pts_nil) (fun _ _ _ _ _ => (pe_cmpR op_ne (pe_ix (kix_list (K := K)) (pv 8) (pv 2) (fun _ _ => rfl)) pe_int (nomark _)))) pa_nil))) (pss_one (ps_ret (pe_tup (pa_cons pe_str (pa_cons (pe_def D_barred hr (passes_call (takes_of rfl rfl rfl rfl) (fun _ _ _ _ h => h)) (pa_cons (pv 0) (pa_cons (pv 1) (pa_cons (pv 2) pa_nil)))) pa_nil))))) pss_nil)
 (pss_cons (ps_asg (pe_op op_rep (pe_lst (pa_cons (pe_mkDD DI_Ratio LI_Ratio m_Ratio hr (fun σ => Passes.at (passes_call (takes_of rfl rfl rfl rfl) (fun _ _ _ _ h => h)) σ) (pa_cons pe_int pa_nil)) pa_nil)) (pv 2)) (pg_name (i := 5) sc_solved.nd rfl (Or.inl rfl)))
 (pss_cons (ps_for (passes_of rfl) rfl (pi_enum (by rfl) B.enumerate (pa_cons (pv 4) pa_nil)) (kpg_tup (K := K) (n := 2) rfl (pgs_cons (pg_name (i := 6) sc_solved.nd rfl (Or.inl rfl)) (pgs_cons (pg_name (i := 7) sc_solved.nd rfl (Or.inl rfl)) pgs_nil))) (pss_one (ps_asg (pe_mkD DI_Ratio m_Ratio hr (fun σ => Passes.at (passes_call (takes_of rfl rfl rfl rfl) (fun _ _ _ _ h => h)) σ) (pa_cons (pe_ix (kix_list (K := K)) (pe_ix (kix_list (K := K)) (pv 3) (pv 6) (fun _ _ => rfl)) (pv 2) (fun _ _ => rfl)) (pa_cons (pe_ix (kix_list (K := K)) (pe_ix (kix_list (K := K)) (pv 3) (pv 6) (fun _ _ => rfl)) (pv 7) (fun _ _ => rfl)) pa_nil))) (pg_sub (pv 5) (pv 7) set_list))))
 (pss_one (ps_ret (pe_tup (pa_cons pe_str (pa_cons (pv 5) pa_nil))))))))))), fun fr Qv hret hrse => ?_⟩)
  obtain ⟨p_rows, p_wished⟩ := x
  replace h : m_solved p_rows p_wished Q X := h
  unfold m_solved at h
  refine kn_seq (kn_asg (i := 2) ?_)
  refine we_ifX (r := zI) h (fun h => ?_) (fun v2 h => ?_)
  · refine wt_tru (we_var rfl (⟨_, ty_L', ⟨rfl, fun hc => ?_, fun hc => ?_⟩⟩))
    · have h := h.1 hc
      refine we_cb (wa_cons (we_op (we_var rfl (we_cI ?_))))
      obtain ⟨v3, ev3, h⟩ := h
      refine oy_ixL ev3 (wa_nil (cy_len sy_L (fun e4 => ?_)))
      exact ⟨rfl, _, rfl, h⟩
    · have h := h.2 hc
      refine we_cI ?_
      exact ⟨rfl, _, rfl, h⟩
  refine kn_nrm (Γ' := [some (iz (yL (yL zI)) p_rows), some (iz (yL zI) p_wished), some (iz zI v2), none, none, none, none, none, none, none]) rfl ?_
  try dsimp only
  refine kn_seq (kn_asg (i := 3) (we_lcMN (r := (z2 (yL zI) zI)) (s := (yL zI)) (wi_zipL (wa_cons (we_var rfl (wa_cons (we_var rfl (wa_nil (⟨_, _, _, _, _, _, rfl, fun e8 => ⟨_, _, _, _, rfl, rfl, e8, fun _ => tg2 (by decide), h, fun x5 c k6 h => ?_, fun ys7 h eys7 a9 => ?_⟩⟩)))))))))
  · refine we_lstY (r := zI) (wa_star (we_var rfl (⟨_, _, _, rfl, wa_cons (we_var rfl (wa_nil ?_))⟩)))
    obtain ⟨g10, h⟩ := h
    refine ⟨(x5.1 ++ (x5.2 :: [])), by simp only [List.map_cons, List.map_append, List.map_nil], g10, ?_⟩
    exact ⟨rfl, _, rfl, h⟩
  refine kn_nrm (Γ' := [some (iz (yL (yL zI)) p_rows), some (iz (yL zI) p_wished), some (iz zI v2), some (zAt a9), none, none, none, none, none, none]) rfl ?_
  try dsimp only
  refine kn_seq (kn_asg (i := 4) (we_callE (wa_cons (we_var rfl (wa_cons (we_var rfl (wa_nil ?_)))))))
  refine sps_LP0 [a9] (ys7, v2) (fun g => [cY a9 (yL zI) g]) ((perm_at (j := 0) rfl).trans (.cons _ (.refl _))) (fun g => (perm_at (j := 0) rfl).trans (.cons _ (.refl _))) h (fun r11 h => ?_)
  try dsimp only
  refine kn_nrm (Γ' := [some (iz (yL (yL zI)) p_rows), some (iz (yL zI) p_wished), some (iz zI v2), some (zAt a9), some (iz (yL zI) r11.1), none, none, none, none, none]) rfl ?_
  try dsimp only
  refine kn_frzY (i := 3) (j := 0) rfl rfl ?_
  refine kn_seq (kn_if (wt_b (we_cb (wa_cons (we_lcM (r := (yL zI)) (s := zB) (wi_yL (we_sl (we_var rfl (wo_some (we_cb (wa_cons (we_var rfl (wa_nil (cy_len sy_L (fun e15 => (⟨_, rfl, wo_none (sy_slL (⟨_, _, _, rfl, fun e16 => ⟨_, _, _, _, rfl, rfl, e16, fun _ => tg_name, h, fun x12 c k13 h => ?_, fun ys14 h eys14 => ?_⟩⟩))⟩))))))))))))))))
  · refine we_op (we_op (we_var rfl (we_var rfl ?_)))
    obtain ⟨v18, ev18, h⟩ := h
    refine oy_ixL ev18 (we_cI (ops_neI ?_))
    exact ⟨rfl, _, rfl, h⟩
  refine wa_nil (cy_any (⟨_, rfl, ⟨fun hc => ?_, fun hc => ?_⟩⟩))
  · have h := h.1 hc
    refine kn_ret (we_tup (wa_cons (we_cSy (z := "BARRED") (asc_of (by decide)) (by decide) (wa_cons (we_callE (wa_cons (we_var rfl (wa_cons (we_var rfl (wa_cons (we_var rfl (wa_nil ?_))))))))))))
    refine sps_WE hrse (p_rows, p_wished, v2) h (fun v19 h => ?_)
    refine wa_nil (⟨Nat.le_of_ble_eq_true rfl, iz (z2 yS (yL (zRatio C_Ratio))) (("BARRED" : Str), v19), tr2, ?_⟩)
    exact hret _ h _
  · have h := h.2 hc
    refine kn_next ?_
    try dsimp only
    refine kn_seq (kn_asg (i := 5) (we_op (we_lstY (r := (zRatio C_Ratio)) (wa_cons (we_mkDf (dps := [iz zI (1 : Int)]) (.cons (fun _ => rfl) (.nil)) (wa_cons (we_cI (wa_nil ?_))))))))
    refine mkWE hrse ((0 : Int), (1 : Int)) h (fun v20 h => ?_)
    refine wa_nil (⟨[v20], rfl, Nat.le_of_ble_eq_true rfl, we_var rfl ?_⟩)
    obtain ⟨g21, h⟩ := h
    refine oy_repO g21.1 g21.2 (fun a22 => ?_)
    refine kn_nrm (Γ' := [some (iz (yL (yL zI)) p_rows), some (iz (yL zI) p_wished), some (iz zI v2), some (iz (yL (yL zI)) r11.2), some (iz (yL zI) r11.1), some (zAt a22), none, none, none, none]) rfl ?_
    try dsimp only
    refine kn_seq (kn_forW (r := (z2 zI zI)) (S := (List (Int × Int))) (fun s23 => [some (iz (yL (yL zI)) p_rows), some (iz (yL zI) p_wished), some (iz zI v2), some (iz (yL (yL zI)) r11.2), some (iz (yL zI) r11.1), some (zAt a22), none, none, none, none]) (fun s23 => [cY a22 (zRatio C_Ratio) s23]) (List.replicate (v2).toNat v20) (wi_enumL (wa_cons (we_var rfl (wa_nil (⟨_, _, _, rfl, fun e25 => ⟨_, _, _, _, _, rfl, rfl, (by and_intros), fun _ _ => tg2 (by decide), h, fun fr' le x24 s23 nx M hnx hbk h => ?_, fun s23 h => ?_⟩⟩))))))
    · have hret := hret.fine le
      have hrse := hrse.fine le
      refine kn_setY (r := (zRatio C_Ratio)) (xs := s23) (i := 5) (j := 0) rfl (we_mkP (wa_cons (we_op (we_op (we_var rfl (we_var rfl ?_))))))
      obtain ⟨v26, ev26, h⟩ := h
      refine oy_ixL ev26 (we_var rfl ?_)
      obtain ⟨v27, ev27, h⟩ := h
      refine oy_ixL ev27 (wa_cons (we_op (we_op (we_var rfl (we_var rfl ?_)))))
      obtain ⟨v28, ev28, h⟩ := h
      refine oy_ixL ev28 (we_var rfl ?_)
      obtain ⟨v29, ev29, h⟩ := h
      refine oy_ixL ev29 (wa_nil ?_)
      refine mkWE hrse (v27, v29) h (fun v30 h => ?_)
      refine we_var rfl ?_
      obtain ⟨m31, em31, h⟩ := h
      refine ⟨_, _, _, rfl, rfl, rfl, em31, ?_⟩
      exact hnx ((s23).set m31 v30) _ _ h (by and_intros) rfl
    try dsimp only
    refine kn_frzY (i := 5) (j := 0) rfl rfl ?_
    refine kn_ret (we_tup (wa_cons (we_cSy (z := "SOLVED") (asc_of (by decide)) (by decide) (wa_cons (we_var rfl (wa_nil (⟨Nat.le_of_ble_eq_true rfl, iz (z2 yS (yL (zRatio C_Ratio))) (("SOLVED" : Str), s23), tr2, ?_⟩)))))))
    exact hret _ h _
abbrev s_solve : Stmt := topS 25
theorem sc_solve : FnScope ["rows", "wished", "row", "number"] ["rows", "wished"] (defScope s_solve) := ⟨rfl, rfl, rfl, by decide +kernel, rfl, by decide +kernel, by decide +kernel⟩
def m_solve (p_rows : (List (List Int))) (p_wished : (List Int)) : DM (Str × (List (Int × Int))) := fun Q X =>
  m_check_size p_rows (fun v1 =>
  forD (p_rows.zip p_wished) () (fun x3 s2 nx bk =>
  ((x3.1 ++ (x3.2 :: []))).length ≤ 1000 ∧
  m_check_row (x3.1 ++ (x3.2 :: [])) (fun v6 =>
  nx ()) X) (fun s2 =>
  m_solved p_rows p_wished (fun v7 =>
  Q v7) X)) X
theorem ok_solve {k : Nat} {cs : EK → Addr} {C_Ratio : Addr} (B : Bl mg) (D_check_size : Def P w K mg base (L2.CX P w) k "check_size" ["rows"] (spA (preW (erW cs) (fun x : (List (List Int)) => [iz (yL (yL zI)) x]) yN (fun x => m_check_size x)))) (D_check_row : Def P w K mg base (L2.CX P w) k "check_row" ["row"] (spA (preW (erW cs) (fun x : (List Int) => [iz (yL zI) x]) yN (fun x => m_check_row x)))) (D_solved : Def P w K mg base (L2.CX P w) k "solved" ["rows", "wished"] (spA (preW (erW cs) (fun x : (List (List Int)) × (List Int) => [iz (yL (yL zI)) x.1, iz (yL zI) x.2]) (z2 yS (yL (zRatio C_Ratio))) (fun x => m_solved x.1 x.2))))
    (F : Src K mg "solve" s_solve ["rows", "wished"]) : Def P w K mg base (L2.CX P w) (k + 1) "solve" ["rows", "wished"] (spA (preW (erW cs) (fun x : (List (List Int)) × (List Int) => [iz (yL (yL zI)) x.1, iz (yL zI) x.2]) (z2 yS (yL (zRatio C_Ratio))) (fun x => m_solve x.1 x.2))) := by
  refine F.okWX sc_solve (fun _ => rfl) (fun f cdv A outer s H E x Q X hr h => ⟨_, (pss_cons (ps_expr (pe_def D_check_size hr (passes_call (takes_of rfl rfl rfl rfl) (fun _ _ _ _ h => h)) (pa_cons (pv 0) pa_nil)))
 (pss_cons (ps_for (passes_of rfl) rfl (RZ.pi_zipA (by rfl) B.zip (pa_cons (pv 0) (pa_cons (pv 1) pa_nil))) (kpg_tup (K := K) (n := 2) rfl (pgs_cons (pg_name (i := 2) sc_solve.nd rfl (Or.inl rfl)) (pgs_cons (pg_name (i := 3) sc_solve.nd rfl (Or.inl rfl)) pgs_nil))) (pss_one (ps_expr (pe_def D_check_row hr (passes_call (takes_of rfl rfl rfl rfl) (fun _ _ _ _ h => h)) (pa_cons (pe_lst (kpa_star (K := K) (pv 2) (pa_cons (pv 3) pa_nil))) pa_nil)))))
 (pss_one (ps_ret (pe_def D_solved hr (passes_call (takes_of rfl rfl rfl rfl) (fun _ _ _ _ h => h)) (pa_cons (pv 0) (pa_cons (pv 1) pa_nil))))))), fun fr Qv hret hrse => ?_⟩)
  obtain ⟨p_rows, p_wished⟩ := x
  replace h : m_solve p_rows p_wished Q X := h
  unfold m_solve at h
  refine kn_seq (kn_drop (we_callE (wa_cons (we_var rfl (wa_nil ?_)))))
  refine sps_WE hrse p_rows h (fun v1 h => ?_)
  try dsimp only
  refine kn_seq (kn_forW (r := (z2 (yL zI) zI)) (S := Unit) (fun s2 => [some (iz (yL (yL zI)) p_rows), some (iz (yL zI) p_wished), none, none]) (fun s2 => []) () (wi_zipL (wa_cons (we_var rfl (wa_cons (we_var rfl (wa_nil (⟨_, _, _, _, _, _, rfl, fun e4 => ⟨_, _, _, _, _, rfl, rfl, (by and_intros), fun _ _ => tg2 (by decide), h, fun fr' le x3 s2 nx M hnx hbk h => ?_, fun s2 h => ?_⟩⟩))))))))
  · have hret := hret.fine le
    have hrse := hrse.fine le
    refine kn_drop (we_callE (wa_cons (we_lstY (r := zI) (wa_star (we_var rfl (⟨_, _, _, rfl, wa_cons (we_var rfl (wa_nil ?_))⟩))))))
    obtain ⟨g5, h⟩ := h
    refine ⟨(x3.1 ++ (x3.2 :: [])), by simp only [List.map_cons, List.map_append, List.map_nil], g5, wa_nil ?_⟩
    refine sps_WE hrse (x3.1 ++ (x3.2 :: [])) h (fun v6 h => ?_)
    exact hnx () _ _ h (by and_intros) rfl
  try dsimp only
  refine kn_ret (we_callE (wa_cons (we_var rfl (wa_cons (we_var rfl (wa_nil ?_))))))
  refine sps_WE hrse (p_rows, p_wished) h (fun v7 h => ?_)
  exact hret _ h _
end
def spLaw (K : PySem.W.Frag) : Sp := fun vs H Q _ => ∃ (a : Addr) (ns : List Int), vs = [.ref a] ∧ SqL K H a (ns.map V.int) ∧ ns.length ≤ 63 ∧ ∀ H', Q (.bl true) H'
section
variable {P : Program} {w : World} {K : PySem.W.Frag} {mg : Str → Option Value} {base : Heap}
abbrev s_rank_of : Stmt := topS 26
theorem sc_rank_of : FnScope ["rows", "row", "columns"] ["rows"] (defScope s_rank_of) := ⟨rfl, rfl, rfl, by decide +kernel, rfl, by decide +kernel, by decide +kernel⟩
def m_rank_of (p_rows : (List (List Int))) : DM Int := fun Q X =>
  m_check_size p_rows (fun v1 =>
  forD p_rows () (fun x3 s2 nx bk =>
  m_check_row x3 (fun v5 =>
  nx ()) X) (fun s2 =>
  joinD (fun k6 =>
  ifD (!(p_rows).isEmpty) (∃ v8, atI p_rows (0 : Int) = some v8 ∧
  k6 ((v8).length : Int)) (k6 (0 : Int))) (fun v7 : Int =>
  mapD p_rows [] (fun x10 k11 =>
  k11 x10) (fun ys12 =>
  m_lead_columns ys12 v7 (fun r15 =>
  Q ((r15.1).length : Int)) noX)))) X
theorem ok_rank_of {k : Nat} {cs : EK → Addr} (B : Bl mg) (D_check_size : Def P w K mg base (L2.CX P w) k "check_size" ["rows"] (spA (preW (erW cs) (fun x : (List (List Int)) => [iz (yL (yL zI)) x]) yN (fun x => m_check_size x)))) (D_check_row : Def P w K mg base (L2.CX P w) k "check_row" ["row"] (spA (preW (erW cs) (fun x : (List Int) => [iz (yL zI) x]) yN (fun x => m_check_row x)))) (D_lead_columns : Def P w K mg base CX0 k "lead_columns" ["table", "columns"] (spC (preL (erW cs) (fun (as : List Addr) (x : (List (List Int)) × Int) => [zAt (ad as 0), iz zI x.2]) (fun (as : List Addr) (x : (List (List Int)) × Int) => [cY (ad as 0) (yL zI) x.1]) (yL zI) (fun (as : List Addr) (x : (List (List Int)) × Int) (g : (List (List Int))) => [cY (ad as 0) (yL zI) g]) (fun x : (List (List Int)) × Int => m_lead_columns x.1 x.2))))
    (F : Src K mg "rank_of" s_rank_of ["rows"]) : Def P w K mg base (L2.CX P w) (k + 1) "rank_of" ["rows"] (spA (preW (erW cs) (fun x : (List (List Int)) => [iz (yL (yL zI)) x]) zI (fun x => m_rank_of x))) := by
  refine F.okWX sc_rank_of (fun _ => rfl) (fun f cdv A outer s H E p_rows Q X hr h => ⟨_, (pss_cons (ps_expr (pe_def D_check_size hr (passes_call (takes_of rfl rfl rfl rfl) (fun _ _ _ _ h => h)) (pa_cons (pv 0) pa_nil)))
 (pss_cons (ps_for (passes_of rfl) rfl (kpi_list (K := K) (pv 0)) (pg_name (i := 1) sc_rank_of.nd rfl (Or.inl rfl)) (pss_one (ps_expr (pe_def D_check_row hr (passes_call (takes_of rfl rfl rfl rfl) (fun _ _ _ _ h => h)) (pa_cons (pv 1) pa_nil)))))
 (pss_cons (ps_asg (pe_ifExp (kpt_truth (Kf := K) (pv 0) (by intro _; rfl)) (pe_callB (kcall_len (K := K)) (by rfl) B.len PySem.boot_len (pa_cons (pe_ix (kix_list (K := K)) (pv 0) pe_int (fun _ _ => rfl)) pa_nil)) pe_int) (pg_name (i := 2) sc_rank_of.nd rfl (Or.inl rfl)))
 (pss_one (ps_ret (pe_callB (kcall_len (K := K)) (by rfl) B.len PySem.boot_len (pa_cons (pe_def D_lead_columns hr pass0 (pa_cons (pe_lc (own := [("row", 1)]) (g := gName 1) (by rfl) sc_rank_of.nd (kpi_list (K := K) (pv 0)) (blkOk_by (N := ["rows", "row", "columns"]) (sc := defScope s_rank_of) (by decide +kernel)) (fun _ _ _ _ _ => (pg_name (i := 1) sc_rank_of.nd rfl (Or.inl rfl))) (fun _ _ _ _ _ => pts_nil) (fun _ _ _ _ _ => (pe_callTy (kcall_list (K := K)) (by rfl) B.list' (by decide +kernel) (pa_cons (pv 1) pa_nil)))) (pa_cons (pv 2) pa_nil))) pa_nil))))))), fun fr Qv hret hrse => ?_⟩)
  replace h : m_rank_of p_rows Q X := h
  unfold m_rank_of at h
  refine kn_seq (kn_drop (we_callE (wa_cons (we_var rfl (wa_nil ?_)))))
  refine sps_WE hrse p_rows h (fun v1 h => ?_)
  try dsimp only
  refine kn_seq (kn_forW (r := (yL zI)) (S := Unit) (fun s2 => [some (iz (yL (yL zI)) p_rows), none, none]) (fun s2 => []) () (wi_yL (we_var rfl (⟨_, _, _, rfl, fun e4 => ⟨_, _, _, _, _, rfl, rfl, (by and_intros), fun _ _ => tg_name, h, fun fr' le x3 s2 nx M hnx hbk h => ?_, fun s2 h => ?_⟩⟩))))
  · have hret := hret.fine le
    have hrse := hrse.fine le
    refine kn_drop (we_callE (wa_cons (we_var rfl (wa_nil ?_))))
    refine sps_WE hrse x3 h (fun v5 h => ?_)
    exact hnx () _ _ h (by and_intros) rfl
  try dsimp only
  refine kn_seq (kn_asg (i := 2) ?_)
  refine we_ifX (r := zI) h (fun h => ?_) (fun v7 h => ?_)
  · refine wt_tru (we_var rfl (⟨_, ty_L', ⟨rfl, fun hc => ?_, fun hc => ?_⟩⟩))
    · have h := h.1 hc
      refine we_cb (wa_cons (we_op (we_var rfl (we_cI ?_))))
      obtain ⟨v8, ev8, h⟩ := h
      refine oy_ixL ev8 (wa_nil (cy_len sy_L (fun e9 => ?_)))
      exact ⟨rfl, _, rfl, h⟩
    · have h := h.2 hc
      refine we_cI ?_
      exact ⟨rfl, _, rfl, h⟩
  try dsimp only
  refine kn_ret (we_cb (wa_cons (we_callE (wa_cons (we_lcMN (r := (yL zI)) (s := (yL zI)) (wi_yL (we_var rfl (⟨_, _, _, rfl, fun e13 => ⟨_, _, _, _, rfl, rfl, e13, fun _ => tg_name, h, fun x10 c k11 h => ?_, fun ys12 h eys12 a14 => ?_⟩⟩))))))))
  · refine we_cb (wa_cons (we_var rfl (wa_nil (cy_list sy_L ?_))))
    exact ⟨rfl, _, rfl, h⟩
  refine wa_cons (we_var rfl (wa_nil ?_))
  refine sps_LP0 [a14] (ys12, v7) (fun g => [cY a14 (yL zI) g]) ((perm_at (j := 0) rfl).trans (.cons _ (.refl _))) (fun g => (perm_at (j := 0) rfl).trans (.cons _ (.refl _))) h (fun r15 h => ?_)
  try dsimp only
  refine wa_nil (cy_len sy_L (fun e16 => ?_))
  exact hret _ h _
abbrev s__law_divisor : Stmt := topS 30
theorem sc__law_divisor : FnScope ["_law_first", "_law_second", "_law_large", "_law_small", "_law_k", "_law_rest"] ["_law_first", "_law_second"] (defScope s__law_divisor) := ⟨rfl, rfl, rfl, by decide +kernel, rfl, by decide +kernel, by decide +kernel⟩
def m__law_divisor (p_law_first : Int) (p_law_second : Int) : DM Int := fun Q X =>
  ∀ large1, large1 = (if p_law_first < 0 then -p_law_first else p_law_first) →
  ∀ small2, small2 = (if p_law_second < 0 then -p_law_second else p_law_second) →
  forD (intsF 0 ((2000 : Int)).toNat) (large1, small2) (fun x4 s3 nx bk =>
  ifD (decide (s3.2 = (0 : Int))) (
  Q s3.1) (
  s3.2 ≠ 0 ∧
  ∀ rest6, rest6 = (Int.fmod s3.1 s3.2) →
  nx (s3.2, rest6))) (fun s3 =>
  Q s3.1)
theorem ok__law_divisor {k : Nat} {cs : EK → Addr} (B : Bl mg) 
    (F : Src K mg "_law_divisor" s__law_divisor ["_law_first", "_law_second"]) : Def P w K mg base CX0 (k + 1) "_law_divisor" ["_law_first", "_law_second"] (spA (preW (erW cs) (fun x : Int × Int => [iz zI x.1, iz zI x.2]) zI (fun x => m__law_divisor x.1 x.2))) := by
  refine F.okW sc__law_divisor (fun _ => rfl) (fun f cdv A outer s H E x Q X hr h => ⟨_, (pss_cons (ps_asg (pe_callB call_abs (by rfl) B.abs (by decide +kernel) (pa_cons (pv 0) pa_nil)) (pg_name (i := 2) sc__law_divisor.nd rfl (Or.inl rfl)))
 (pss_cons (ps_asg (pe_callB call_abs (by rfl) B.abs (by decide +kernel) (pa_cons (pv 1) pa_nil)) (pg_name (i := 3) sc__law_divisor.nd rfl (Or.inl rfl)))
 (pss_cons (ps_for PassesOwn.never rfl (pi_range1 (by rfl) B.range (pa_cons pe_int pa_nil)) (pg_name (i := 4) sc__law_divisor.nd rfl (Or.inl rfl)) (pss_cons (ps_if (pt_cmpR op_eq (pv 3) pe_int (nomark _)) (pss_one (ps_ret (pv 2))) pss_nil)
 (pss_cons (ps_asg (pe_op op_modN (pe_callTy call_int1 (by rfl) B.int' (by decide +kernel) (pa_cons (pv 2) pa_nil)) (pv 3)) (pg_name (i := 5) sc__law_divisor.nd rfl (Or.inl rfl)))
 (pss_cons (ps_asg (pv 3) (pg_name (i := 2) sc__law_divisor.nd rfl (Or.inl rfl)))
 (pss_one (ps_asg (pv 5) (pg_name (i := 3) sc__law_divisor.nd rfl (Or.inl rfl))))))))
 (pss_one (ps_ret (pv 2)))))), fun fr Qv hret => ?_⟩)
  obtain ⟨p_law_first, p_law_second⟩ := x
  replace h : m__law_divisor p_law_first p_law_second Q X := h
  unfold m__law_divisor at h
  refine kn_seq (kn_asgL (i := 2) (r := zI) (we_cb (wa_cons (we_var rfl (wa_nil (cb_abs (⟨_, rfl, fun large1 elarge1 => ?_⟩)))))))
  have h := h large1 elarge1
  refine kn_nrm (Γ' := [some (iz zI p_law_first), some (iz zI p_law_second), some (iz zI large1), none, none, none]) rfl ?_
  try dsimp only
  refine kn_seq (kn_asgL (i := 3) (r := zI) (we_cb (wa_cons (we_var rfl (wa_nil (cb_abs (⟨_, rfl, fun small2 esmall2 => ?_⟩)))))))
  have h := h small2 esmall2
  refine kn_nrm (Γ' := [some (iz zI p_law_first), some (iz zI p_law_second), some (iz zI large1), some (iz zI small2), none, none]) rfl ?_
  try dsimp only
  refine kn_seq (kn_forW (r := zI) (S := Int × Int) (fun s3 => [some (iz zI p_law_first), some (iz zI p_law_second), some (iz zI s3.1), some (iz zI s3.2), none, none]) (fun s3 => []) (large1, small2) (wi_range (wa_cons (we_cI (wa_nil (⟨_, rfl, (by have hb : big = 100000 := rfl; omega), (by have hb : big = 100000 := rfl; omega), ⟨_, _, _, _, _, rfl, rfl, (by and_intros), fun _ _ => tg_name, h, fun fr' le x4 s3 nx M hnx hbk h => ?_, fun s3 h => ?_⟩⟩))))))
  · have hret := hret.fine le
    refine kn_seq (kn_if (wt_test (we_op (we_var rfl (we_cI (ops_eqI (⟨_, rfl, ⟨fun hc => ?_, fun hc => ?_⟩⟩)))))))
    · have h := h.1 hc
      refine kn_ret (we_var rfl ?_)
      exact hret _ h _
    · have h := h.2 hc
      refine kn_next ?_
      try dsimp only
      refine kn_seq (kn_asgL (i := 5) (r := zI) (we_op (we_cb (wa_cons (we_var rfl (wa_nil (cb_int (we_var rfl ?_))))))))
      obtain ⟨g5, h⟩ := h
      refine ops_IC (C := fun _ j => j ≠ 0) g5 (⟨_, rfl, fun rest6 erest6 => ?_⟩)
      have h := h rest6 erest6
      refine kn_nrm (Γ' := [some (iz zI p_law_first), some (iz zI p_law_second), some (iz zI s3.1), some (iz zI s3.2), some (iz zI x4), some (iz zI rest6)]) rfl ?_
      try dsimp only
      refine kn_seq (kn_asg (i := 2) (we_var rfl ?_))
      refine kn_nrm (Γ' := [some (iz zI p_law_first), some (iz zI p_law_second), some (iz zI s3.2), some (iz zI s3.2), some (iz zI x4), some (iz zI rest6)]) rfl ?_
      try dsimp only
      refine kn_asg (i := 3) (we_var rfl ?_)
      exact hnx (s3.2, rest6) _ _ h (by and_intros) rfl
  try dsimp only
  refine kn_ret (we_var rfl ?_)
  exact hret _ h _
abbrev s__law_int : Stmt := topS 31
theorem sc__law_int : FnScope ["_law_told"] ["_law_told"] (defScope s__law_int) := ⟨rfl, rfl, rfl, by decide +kernel, rfl, by decide +kernel, by decide +kernel⟩
def m__law_int (p_law_told : Int) : DM Bool := fun Q X =>
  Q (true && (!false))
theorem ok__law_int {k : Nat} {cs : EK → Addr} (B : Bl mg) 
    (F : Src K mg "_law_int" s__law_int ["_law_told"]) : Def P w K mg base CX0 (k + 1) "_law_int" ["_law_told"] (spA (preW (erW cs) (fun x : Int => [iz zI x]) zB (fun x => m__law_int x))) := by
  refine F.okW sc__law_int (fun _ => rfl) (fun f cdv A outer s H E p_law_told Q X hr h => ⟨_, (pss_one (ps_ret (pe_and (pe_callB (kcall_isi (K := K)) (by rfl) B.isinstance (by decide +kernel) (pa_cons (pv 0) (pa_cons (pe_bltn (v := .ty "int") (by rfl) B.int' (by decide +kernel) rfl) pa_nil))) (pe_one (pe_not (pe_callB (kcall_isi (K := K)) (by rfl) B.isinstance (by decide +kernel) (pa_cons (pv 0) (pa_cons (pe_bltn (v := .ty "bool") (by rfl) B.bool' (by decide +kernel) rfl) pa_nil)))))))), fun fr Qv hret => ?_⟩)
  replace h : m__law_int p_law_told Q X := h
  unfold m__law_int at h
  refine kn_ret (we_andP (we_cb (wa_cons (we_var rfl (wa_cons (we_cT (wa_nil (cb_isi ty_I (show kitB "int" "int" = some true by decide +kernel) (⟨_, _, rfl, fun _ => we_not (we_cb (wa_cons (we_var rfl (wa_cons (we_cT (wa_nil (cb_isi ty_I (show kitB "int" "bool" = some false by decide +kernel) (⟨_, rfl, ⟨rfl, rfl⟩⟩)))))))), ?_⟩)))))))))
  exact hret _ h _
abbrev s__law_gives : Stmt := topS 32
theorem sc__law_gives : FnScope ["_law_numbers", "_law_rows", "_law_due_here", "_law_top", "_law_bottom", "_law_k"] ["_law_numbers", "_law_rows", "_law_due_here"] (defScope s__law_gives) := ⟨rfl, rfl, rfl, by decide +kernel, rfl, by decide +kernel, by decide +kernel⟩
def m__law_gives (p_law_numbers : (List Int)) (p_law_rows : (List (Int × Int))) (p_law_due_here : Int) : DM Bool := fun Q X =>
  forD (intsF 0 (((p_law_rows).length : Int)).toNat) ((0 : Int), (1 : Int)) (fun x2 s1 nx bk =>
  ∃ v4, atI p_law_rows x2 = some v4 ∧
  CMulW s1.1 v4.2 ∧
  ∃ v6, atI p_law_numbers x2 = some v6 ∧
  ∃ v7, atI p_law_rows x2 = some v7 ∧
  CMulW v6 v7.1 ∧
  CMulW (v6 * v7.1) s1.2 ∧
  ∀ top10, top10 = ((s1.1 * v4.2) + ((v6 * v7.1) * s1.2)) →
  ∃ v11, atI p_law_rows x2 = some v11 ∧
  CMulW s1.2 v11.2 ∧
  ∀ bottom13, bottom13 = (s1.2 * v11.2) →
  nx (top10, bottom13)) (fun s1 =>
  CMulW p_law_due_here s1.2 ∧
  Q (decide (s1.1 = (p_law_due_here * s1.2))))
theorem ok__law_gives {k : Nat} {cs : EK → Addr} {C_Ratio : Addr} (B : Bl mg) (T_Ratio : ClsA K mg C_Ratio "Ratio" ["top", "bottom"])
    (F : Src K mg "_law_gives" s__law_gives ["_law_numbers", "_law_rows", "_law_due_here"]) : Def P w K mg base CX0 (k + 1) "_law_gives" ["_law_numbers", "_law_rows", "_law_due_here"] (spA (preW (erW cs) (fun x : (List Int) × (List (Int × Int)) × Int => [iz (yL zI) x.1, iz (yL (zRatio C_Ratio)) x.2.1, iz zI x.2.2]) zB (fun x => m__law_gives x.1 x.2.1 x.2.2))) := by
  refine F.okW sc__law_gives (fun _ => rfl) (fun f cdv A outer s H E x Q X hr h => ⟨_, (pss_cons (ps_asg pe_int (pg_name (i := 3) sc__law_gives.nd rfl (Or.inl rfl)))
 (pss_cons (ps_asg pe_int (pg_name (i := 4) sc__law_gives.nd rfl (Or.inl rfl)))
 (pss_cons (ps_for PassesOwn.never rfl (pi_range1 (by rfl) B.range (pa_cons (pe_callB (kcall_len (K := K)) (by rfl) B.len PySem.boot_len (pa_cons (pv 1) pa_nil)) pa_nil)) (pg_name (i := 5) sc__law_gives.nd rfl (Or.inl rfl)) (pss_cons (ps_asg (pe_op op_add (pe_op op_mulW (pv 3) (kpe_fld (K := K) (pe_ix (kix_list (K := K)) (pv 1) (pv 5) (fun _ _ => rfl)))) (pe_op op_mulW (pe_op op_mulW (pe_ix (kix_list (K := K)) (pv 0) (pv 5) (fun _ _ => rfl)) (kpe_fld (K := K) (pe_ix (kix_list (K := K)) (pv 1) (pv 5) (fun _ _ => rfl)))) (pv 4))) (pg_name (i := 3) sc__law_gives.nd rfl (Or.inl rfl)))
 (pss_one (ps_asg (pe_op op_mulW (pv 4) (kpe_fld (K := K) (pe_ix (kix_list (K := K)) (pv 1) (pv 5) (fun _ _ => rfl)))) (pg_name (i := 4) sc__law_gives.nd rfl (Or.inl rfl))))))
 (pss_one (ps_ret (pe_cmpR op_eq (pv 3) (pe_op op_mulW (pv 2) (pv 4)) (nomark _))))))), fun fr Qv hret => ?_⟩)
  obtain ⟨p_law_numbers, p_law_rows, p_law_due_here⟩ := x
  replace h : m__law_gives p_law_numbers p_law_rows p_law_due_here Q X := h
  unfold m__law_gives at h
  refine kn_seq (kn_asg (i := 3) (we_cI ?_))
  refine kn_nrm (Γ' := [some (iz (yL zI) p_law_numbers), some (iz (yL (zRatio C_Ratio)) p_law_rows), some (iz zI p_law_due_here), some (iz zI (0 : Int)), none, none]) rfl ?_
  try dsimp only
  refine kn_seq (kn_asg (i := 4) (we_cI ?_))
  refine kn_nrm (Γ' := [some (iz (yL zI) p_law_numbers), some (iz (yL (zRatio C_Ratio)) p_law_rows), some (iz zI p_law_due_here), some (iz zI (0 : Int)), some (iz zI (1 : Int)), none]) rfl ?_
  try dsimp only
  refine kn_seq (kn_forW (r := zI) (S := Int × Int) (fun s1 => [some (iz (yL zI) p_law_numbers), some (iz (yL (zRatio C_Ratio)) p_law_rows), some (iz zI p_law_due_here), some (iz zI s1.1), some (iz zI s1.2), none]) (fun s1 => []) ((0 : Int), (1 : Int)) (wi_range (wa_cons (we_cb (wa_cons (we_var rfl (wa_nil (cy_len sy_L (fun e3 => (wa_nil (⟨_, rfl, (by have hb : big = 100000 := rfl; omega), (by have hb : big = 100000 := rfl; omega), ⟨_, _, _, _, _, rfl, rfl, (by and_intros), fun _ _ => tg_name, h, fun fr' le x2 s1 nx M hnx hbk h => ?_, fun s1 h => ?_⟩⟩)))))))))))
  · have hret := hret.fine le
    refine kn_seq (kn_asgL (i := 3) (r := zI) (we_op (we_op (we_var rfl (we_fld (we_op (we_var rfl (we_var rfl ?_))))))))
    obtain ⟨v4, ev4, h⟩ := h
    refine oy_ixL ev4 (⟨_, fld_in T_Ratio.toClsF (by decide) rfl, ?_⟩)
    obtain ⟨g5, h⟩ := h
    refine ops_IC g5 (we_op (we_op (we_op (we_var rfl (we_var rfl ?_)))))
    obtain ⟨v6, ev6, h⟩ := h
    refine oy_ixL ev6 (we_fld (we_op (we_var rfl (we_var rfl ?_))))
    obtain ⟨v7, ev7, h⟩ := h
    refine oy_ixL ev7 (⟨_, fld_in T_Ratio.toClsF (by decide) rfl, ?_⟩)
    obtain ⟨g8, h⟩ := h
    refine ops_IC g8 (we_var rfl ?_)
    obtain ⟨g9, h⟩ := h
    refine ops_IC g9 (ops_I0 (⟨_, rfl, fun top10 etop10 => ?_⟩))
    have h := h top10 etop10
    refine kn_nrm (Γ' := [some (iz (yL zI) p_law_numbers), some (iz (yL (zRatio C_Ratio)) p_law_rows), some (iz zI p_law_due_here), some (iz zI top10), some (iz zI s1.2), some (iz zI x2)]) rfl ?_
    try dsimp only
    refine kn_asgL (i := 4) (r := zI) (we_op (we_var rfl (we_fld (we_op (we_var rfl (we_var rfl ?_))))))
    obtain ⟨v11, ev11, h⟩ := h
    refine oy_ixL ev11 (⟨_, fld_in T_Ratio.toClsF (by decide) rfl, ?_⟩)
    obtain ⟨g12, h⟩ := h
    refine ops_IC g12 (⟨_, rfl, fun bottom13 ebottom13 => ?_⟩)
    have h := h bottom13 ebottom13
    exact hnx (top10, bottom13) _ _ h (by and_intros) rfl
  try dsimp only
  refine kn_ret (we_op (we_var rfl (we_op (we_var rfl (we_var rfl ?_)))))
  obtain ⟨g14, h⟩ := h
  refine ops_IC g14 (ops_eqI ?_)
  exact hret _ h _
abbrev s__law_ratios : Stmt := topS 33
theorem sc__law_ratios : FnScope ["_law_told", "_law_many", "_law_ratio"] ["_law_told", "_law_many"] (defScope s__law_ratios) := ⟨rfl, rfl, rfl, by decide +kernel, rfl, by decide +kernel, by decide +kernel⟩
def m__law_ratios (p_law_told : (List (Int × Int))) (p_law_many : Int) : DM Bool := fun Q X =>
  ifD ((!true) || (!decide (((p_law_told).length : Int) = p_law_many))) (
  Q false) (
  forD p_law_told () (fun x3 s2 nx bk =>
  orD (!true) (fun k6 => m__law_int x3.1 (fun v7 =>
  orD (!v7) (fun k9 => m__law_int x3.2 (fun v10 =>
  k9 (!v10)) noX) (fun c8 =>
  k6 c8)) noX) (fun c5 =>
  ifD c5 (
  Q false) (
  orD (decide (x3.2 < (1 : Int))) (fun k12 => m__law_divisor x3.1 x3.2 (fun v13 =>
  k12 (!decide (v13 = (1 : Int)))) noX) (fun c11 =>
  ifD c11 (
  Q false) (
  nx ()))))) (fun s2 =>
  Q true))
theorem ok__law_ratios {k : Nat} {cs : EK → Addr} {C_Ratio : Addr} (B : Bl mg) (T_Ratio : ClsA K mg C_Ratio "Ratio" ["top", "bottom"]) (D__law_int : Def P w K mg base CX0 k "_law_int" ["_law_told"] (spA (preW (erW cs) (fun x : Int => [iz zI x]) zB (fun x => m__law_int x)))) (D__law_divisor : Def P w K mg base CX0 k "_law_divisor" ["_law_first", "_law_second"] (spA (preW (erW cs) (fun x : Int × Int => [iz zI x.1, iz zI x.2]) zI (fun x => m__law_divisor x.1 x.2))))
    (F : Src K mg "_law_ratios" s__law_ratios ["_law_told", "_law_many"]) : Def P w K mg base CX0 (k + 1) "_law_ratios" ["_law_told", "_law_many"] (spA (preW (erW cs) (fun x : (List (Int × Int)) × Int => [iz (yL (zRatio C_Ratio)) x.1, iz zI x.2]) zB (fun x => m__law_ratios x.1 x.2))) := by
  refine F.okW sc__law_ratios (fun _ => rfl) (fun f cdv A outer s H E x Q X hr h => ⟨_, (pss_cons (ps_if (PW.pt (pw_or (pt_not (pt_val (pe_callB (kcall_isi (K := K)) (by rfl) B.isinstance (by decide +kernel) (pa_cons (pv 0) (pa_cons (pe_bltn (v := .ty "list") (by rfl) B.list' (by decide +kernel) rfl) pa_nil))))) (pw_or1 (pt_cmpR op_ne (pe_callB (kcall_len (K := K)) (by rfl) B.len PySem.boot_len (pa_cons (pv 0) pa_nil)) (pv 1) (nomark _))))) (pss_one (ps_ret pe_bl)) pss_nil)
 (pss_cons (ps_for PassesOwn.never rfl (kpi_list (K := K) (pv 0)) (pg_name (i := 2) sc__law_ratios.nd rfl (Or.inl rfl)) (pss_cons (ps_if (PW.pt (pw_or (pt_not (pt_val (pe_callB (kcall_isi (K := K)) (by rfl) B.isinstance (by decide +kernel) (pa_cons (pv 2) (pa_cons (pe_glo T_Ratio.glo) pa_nil))))) (pw_or (pt_not (pt_val (pe_def D__law_int hr pass0 (pa_cons (kpe_fld (K := K) (pv 2)) pa_nil)))) (pw_or1 (pt_not (pt_val (pe_def D__law_int hr pass0 (pa_cons (kpe_fld (K := K) (pv 2)) pa_nil)))))))) (pss_one (ps_ret pe_bl)) pss_nil)
 (pss_one (ps_if (PW.pt (pw_or (pt_cmpR op_lt (kpe_fld (K := K) (pv 2)) pe_int (nomark _)) (pw_or1 (pt_cmpR op_ne (pe_def D__law_divisor hr pass0 (pa_cons (kpe_fld (K := K) (pv 2)) (pa_cons (kpe_fld (K := K) (pv 2)) pa_nil))) pe_int (nomark _))))) (pss_one (ps_ret pe_bl)) pss_nil))))
 (pss_one (ps_ret pe_bl)))), fun fr Qv hret => ?_⟩)
  obtain ⟨p_law_told, p_law_many⟩ := x
  replace h : m__law_ratios p_law_told p_law_many Q X := h
  unfold m__law_ratios at h
  refine kn_seq (kn_if (wt_orP (wt_not (wt_b (we_cb (wa_cons (we_var rfl (wa_cons (we_cT (wa_nil (cb_isi ty_yL (show kitB "list" "list" = some true by decide +kernel) (⟨_, rfl, ⟨_, fun _ => wt_test (we_op (we_cb (wa_cons (we_var rfl (wa_nil (cy_len sy_L (fun e1 => (we_var rfl (ops_neI (⟨_, rfl, ⟨rfl, rfl⟩⟩)))))))))), ⟨fun hc => ?_, fun hc => ?_⟩⟩⟩))))))))))))
  · have h := h.1 hc
    refine kn_ret (we_cB ?_)
    exact hret _ h _
  · have h := h.2 hc
    refine kn_next ?_
    try dsimp only
    refine kn_seq (kn_forW (r := (zRatio C_Ratio)) (S := Unit) (fun s2 => [some (iz (yL (zRatio C_Ratio)) p_law_told), some (iz zI p_law_many), none]) (fun s2 => []) () (wi_yL (we_var rfl (⟨_, _, _, rfl, fun e4 => ⟨_, _, _, _, _, rfl, rfl, (by and_intros), fun _ _ => tg_name, h, fun fr' le x3 s2 nx M hnx hbk h => ?_, fun s2 h => ?_⟩⟩))))
    · have hret := hret.fine le
      refine kn_seq (kn_if (wt_orC (wt_not (wt_b (we_cb (wa_cons (we_var rfl (wa_cons (we_cA (wa_nil (cb_isO T_Ratio.io insC_in T_Ratio.k1 (⟨_, rfl, ?_⟩))))))))))))
      refine orK h (fun h => ?_) (fun c5 h => ?_)
      · refine wt_orC (wt_not (wt_b (we_callE (wa_cons (we_fld (we_var rfl (⟨_, fld_in T_Ratio.toClsF (by decide) rfl, wa_nil ?_⟩)))))))
        refine sps_W0 x3.1 h (fun v7 h => ?_)
        refine ⟨_, rfl, ?_⟩
        refine orK h (fun h => ?_) (fun c8 h => ?_)
        · refine wt_not (wt_b (we_callE (wa_cons (we_fld (we_var rfl (⟨_, fld_in T_Ratio.toClsF (by decide) rfl, wa_nil ?_⟩))))))
          refine sps_W0 x3.2 h (fun v10 h => ?_)
          refine ⟨_, rfl, ?_⟩
          exact ⟨rfl, h⟩
        exact ⟨rfl, h⟩
      refine ⟨fun hc => ?_, fun hc => ?_⟩
      · have h := h.1 hc
        refine kn_ret (we_cB ?_)
        exact hret _ h _
      · have h := h.2 hc
        refine kn_next ?_
        try dsimp only
        refine kn_if (wt_orC (wt_test (we_op (we_fld (we_var rfl (⟨_, fld_in T_Ratio.toClsF (by decide) rfl, we_cI (ops_B0 (⟨_, rfl, ?_⟩))⟩))))))
        refine orK h (fun h => ?_) (fun c11 h => ?_)
        · refine wt_test (we_op (we_callE (wa_cons (we_fld (we_var rfl (⟨_, fld_in T_Ratio.toClsF (by decide) rfl, wa_cons (we_fld (we_var rfl (⟨_, fld_in T_Ratio.toClsF (by decide) rfl, wa_nil ?_⟩)))⟩))))))
          refine sps_W0 (x3.1, x3.2) h (fun v13 h => ?_)
          refine we_cI (ops_neI (⟨_, rfl, ?_⟩))
          exact ⟨rfl, h⟩
        refine ⟨fun hc => ?_, fun hc => ?_⟩
        · have h := h.1 hc
          refine kn_ret (we_cB ?_)
          exact hret _ h _
        · have h := h.2 hc
          refine kn_next ?_
          exact hnx () _ _ h (by and_intros) rfl
    try dsimp only
    refine kn_ret (we_cB ?_)
    exact hret _ h _
abbrev s__law_solved : Stmt := topS 34
theorem sc__law_solved : FnScope ["_law_told", "_law_rows", "_law_wished", "_law_columns", "_law_k"] ["_law_told", "_law_rows", "_law_wished", "_law_columns"] (defScope s__law_solved) := ⟨rfl, rfl, rfl, by decide +kernel, rfl, by decide +kernel, by decide +kernel⟩
def m__law_solved (p_law_told : (Str × (List (Int × Int)))) (p_law_rows : (List (List Int))) (p_law_wished : (List Int)) (p_law_columns : Int) : DM Bool := fun Q X =>
  orD (!true) (fun k2 => orD (!decide ((((([(), ()] : List Unit)).length : Nat) : Int) = (2 : Int))) (fun k6 => orD (!decide (p_law_told.1 = ("SOLVED" : Str))) (fun k8 => m__law_ratios p_law_told.2 p_law_columns (fun v9 =>
  k8 (!v9)) noX) (fun c7 =>
  k6 c7)) (fun c5 =>
  k2 c5)) (fun c1 =>
  ifD c1 (
  Q false) (
  forD (intsF 0 (((p_law_rows).length : Int)).toNat) () (fun x11 s10 nx bk =>
  ∃ v13, atI p_law_rows x11 = some v13 ∧
  ∃ v14, atI p_law_wished x11 = some v14 ∧
  m__law_gives v13 p_law_told.2 v14 (fun v15 =>
  ifD (!v15) (
  Q false) (
  nx ())) noX) (fun s10 =>
  Q true)))
theorem ok__law_solved {k : Nat} {cs : EK → Addr} {C_Ratio : Addr} (B : Bl mg) (D__law_ratios : Def P w K mg base CX0 k "_law_ratios" ["_law_told", "_law_many"] (spA (preW (erW cs) (fun x : (List (Int × Int)) × Int => [iz (yL (zRatio C_Ratio)) x.1, iz zI x.2]) zB (fun x => m__law_ratios x.1 x.2)))) (D__law_gives : Def P w K mg base CX0 k "_law_gives" ["_law_numbers", "_law_rows", "_law_due_here"] (spA (preW (erW cs) (fun x : (List Int) × (List (Int × Int)) × Int => [iz (yL zI) x.1, iz (yL (zRatio C_Ratio)) x.2.1, iz zI x.2.2]) zB (fun x => m__law_gives x.1 x.2.1 x.2.2))))
    (F : Src K mg "_law_solved" s__law_solved ["_law_told", "_law_rows", "_law_wished", "_law_columns"]) : Def P w K mg base CX0 (k + 1) "_law_solved" ["_law_told", "_law_rows", "_law_wished", "_law_columns"] (spA (preW (erW cs) (fun x : (Str × (List (Int × Int))) × (List (List Int)) × (List Int) × Int => [iz (z2 yS (yL (zRatio C_Ratio))) x.1, iz (yL (yL zI)) x.2.1, iz (yL zI) x.2.2.1, iz zI x.2.2.2]) zB (fun x => m__law_solved x.1 x.2.1 x.2.2.1 x.2.2.2))) := by
  refine F.okW sc__law_solved (fun _ => rfl) (fun f cdv A outer s H E x Q X hr h => ⟨_, (pss_cons (ps_if (PW.pt (pw_or (pt_not (pt_val (pe_callB (kcall_isi (K := K)) (by rfl) B.isinstance (by decide +kernel) (pa_cons (pv 0) (pa_cons (pe_bltn (v := .ty "tuple") (by rfl) B.tuple' (by decide +kernel) rfl) pa_nil))))) (pw_or (pt_cmpR op_ne (pe_callB (kcall_len (K := K)) (by rfl) B.len PySem.boot_len (pa_cons (pv 0) pa_nil)) pe_int (nomark _)) (pw_or (pt_cmpR op_ne (pe_ix (kix_tup (K := K)) (pv 0) pe_int (fun _ _ => rfl)) pe_str (nomark _)) (pw_or1 (pt_not (pt_val (pe_def D__law_ratios hr pass0 (pa_cons (pe_ix (kix_tup (K := K)) (pv 0) pe_int (fun _ _ => rfl)) (pa_cons (pv 3) pa_nil)))))))))) (pss_one (ps_ret pe_bl)) pss_nil)
 (pss_cons (ps_for PassesOwn.never rfl (pi_range1 (by rfl) B.range (pa_cons (pe_callB (kcall_len (K := K)) (by rfl) B.len PySem.boot_len (pa_cons (pv 1) pa_nil)) pa_nil)) (pg_name (i := 4) sc__law_solved.nd rfl (Or.inl rfl)) (pss_one (ps_if (pt_not (pt_val (pe_def D__law_gives hr pass0 (pa_cons (pe_ix (kix_list (K := K)) (pv 1) (pv 4) (fun _ _ => rfl)) (pa_cons (pe_ix (kix_tup (K := K)) (pv 0) pe_int (fun _ _ => rfl)) (pa_cons (pe_ix (kix_list (K := K)) (pv 2) (pv 4) (fun _ _ => rfl)) pa_nil)))))) (pss_one (ps_ret pe_bl)) pss_nil)))
 (pss_one (ps_ret pe_bl)))), fun fr Qv hret => ?_⟩)
  obtain ⟨p_law_told, p_law_rows, p_law_wished, p_law_columns⟩ := x
  replace h : m__law_solved p_law_told p_law_rows p_law_wished p_law_columns Q X := h
  unfold m__law_solved at h
  refine kn_seq (kn_if (wt_orC (wt_not (wt_b (we_cb (wa_cons (we_var rfl (wa_cons (we_cT (wa_nil (cb_isi ty_2 (show kitB "tuple" "tuple" = some true by decide +kernel) (⟨_, rfl, ?_⟩))))))))))))
  refine orK h (fun h => ?_) (fun c1 h => ?_)
  · refine wt_orC (wt_test (we_op (we_cb (wa_cons (we_var rfl (wa_nil (cy_len sp_2 (fun e4 => (we_cI (ops_neI (⟨_, rfl, ?_⟩)))))))))))
    refine orK h (fun h => ?_) (fun c5 h => ?_)
    · refine wt_orC (wt_test (we_op (we_op (we_var rfl (we_cI (ops_ix20 (we_cSy (z := "SOLVED") (asc_of (by decide)) (by decide) (oy_neS (⟨_, rfl, ?_⟩)))))))))
      refine orK h (fun h => ?_) (fun c7 h => ?_)
      · refine wt_not (wt_b (we_callE (wa_cons (we_op (we_var rfl (we_cI (ops_ix21 (wa_cons (we_var rfl (wa_nil ?_))))))))))
        refine sps_W0 (p_law_told.2, p_law_columns) h (fun v9 h => ?_)
        refine ⟨_, rfl, ?_⟩
        exact ⟨rfl, h⟩
      exact ⟨rfl, h⟩
    exact ⟨rfl, h⟩
  refine ⟨fun hc => ?_, fun hc => ?_⟩
  · have h := h.1 hc
    refine kn_ret (we_cB ?_)
    exact hret _ h _
  · have h := h.2 hc
    refine kn_next ?_
    try dsimp only
    refine kn_seq (kn_forW (r := zI) (S := Unit) (fun s10 => [some (iz (z2 yS (yL (zRatio C_Ratio))) p_law_told), some (iz (yL (yL zI)) p_law_rows), some (iz (yL zI) p_law_wished), some (iz zI p_law_columns), none]) (fun s10 => []) () (wi_range (wa_cons (we_cb (wa_cons (we_var rfl (wa_nil (cy_len sy_L (fun e12 => (wa_nil (⟨_, rfl, (by have hb : big = 100000 := rfl; omega), (by have hb : big = 100000 := rfl; omega), ⟨_, _, _, _, _, rfl, rfl, (by and_intros), fun _ _ => tg_name, h, fun fr' le x11 s10 nx M hnx hbk h => ?_, fun s10 h => ?_⟩⟩)))))))))))
    · have hret := hret.fine le
      refine kn_if (wt_not (wt_b (we_callE (wa_cons (we_op (we_var rfl (we_var rfl ?_)))))))
      obtain ⟨v13, ev13, h⟩ := h
      refine oy_ixL ev13 (wa_cons (we_op (we_var rfl (we_cI (ops_ix21 (wa_cons (we_op (we_var rfl (we_var rfl ?_)))))))))
      obtain ⟨v14, ev14, h⟩ := h
      refine oy_ixL ev14 (wa_nil ?_)
      refine sps_W0 (v13, p_law_told.2, v14) h (fun v15 h => ?_)
      refine ⟨_, rfl, ⟨fun hc => ?_, fun hc => ?_⟩⟩
      · have h := h.1 hc
        refine kn_ret (we_cB ?_)
        exact hret _ h _
      · have h := h.2 hc
        refine kn_next ?_
        exact hnx () _ _ h (by and_intros) rfl
    try dsimp only
    refine kn_ret (we_cB ?_)
    exact hret _ h _
abbrev s__law_barred : Stmt := topS 35
theorem sc__law_barred : FnScope ["_law_told", "_law_rows", "_law_wished", "_law_columns", "_law_at", "_law_row"] ["_law_told", "_law_rows", "_law_wished", "_law_columns"] (defScope s__law_barred) := ⟨rfl, rfl, rfl, by decide +kernel, rfl, by decide +kernel, by decide +kernel⟩
def m__law_barred (p_law_told : (Str × (List (Int × Int)))) (p_law_rows : (List (List Int))) (p_law_wished : (List Int)) (p_law_columns : Int) : DM Bool := fun Q X =>
  orD (!true) (fun k2 => orD (!decide ((((([(), ()] : List Unit)).length : Nat) : Int) = (2 : Int))) (fun k6 => orD (!decide (p_law_told.1 = ("BARRED" : Str))) (fun k8 => m__law_ratios p_law_told.2 ((p_law_rows).length : Int) (fun v10 =>
  k8 (!v10)) noX) (fun c7 =>
  k6 c7)) (fun c5 =>
  k2 c5)) (fun c1 =>
  ifD c1 (
  Q false) (
  (-100000 ≤ p_law_columns ∧ p_law_columns ≤ 100000) ∧
  forD (intsF 0 (p_law_columns).toNat) () (fun x12 s11 nx bk =>
  mapD p_law_rows [] (fun x14 k15 =>
  ∃ v19, atI x14 x12 = some v19 ∧
  k15 v19) (fun ys16 =>
  m__law_gives ys16 p_law_told.2 (0 : Int) (fun v20 =>
  ifD (!v20) (
  Q false) (
  nx ())) noX)) (fun s11 =>
  m__law_gives p_law_wished p_law_told.2 (1 : Int) (fun v21 =>
  Q v21) noX)))
theorem ok__law_barred {k : Nat} {cs : EK → Addr} {C_Ratio : Addr} (B : Bl mg) (D__law_ratios : Def P w K mg base CX0 k "_law_ratios" ["_law_told", "_law_many"] (spA (preW (erW cs) (fun x : (List (Int × Int)) × Int => [iz (yL (zRatio C_Ratio)) x.1, iz zI x.2]) zB (fun x => m__law_ratios x.1 x.2)))) (D__law_gives : Def P w K mg base CX0 k "_law_gives" ["_law_numbers", "_law_rows", "_law_due_here"] (spA (preW (erW cs) (fun x : (List Int) × (List (Int × Int)) × Int => [iz (yL zI) x.1, iz (yL (zRatio C_Ratio)) x.2.1, iz zI x.2.2]) zB (fun x => m__law_gives x.1 x.2.1 x.2.2))))
    (F : Src K mg "_law_barred" s__law_barred ["_law_told", "_law_rows", "_law_wished", "_law_columns"]) : Def P w K mg base CX0 (k + 1) "_law_barred" ["_law_told", "_law_rows", "_law_wished", "_law_columns"] (spA (preW (erW cs) (fun x : (Str × (List (Int × Int))) × (List (List Int)) × (List Int) × Int => [iz (z2 yS (yL (zRatio C_Ratio))) x.1, iz (yL (yL zI)) x.2.1, iz (yL zI) x.2.2.1, iz zI x.2.2.2]) zB (fun x => m__law_barred x.1 x.2.1 x.2.2.1 x.2.2.2))) := by
  refine F.okW sc__law_barred (fun _ => rfl) (fun f cdv A outer s H E x Q X hr h => ⟨_, (pss_cons (ps_if (PW.pt (pw_or (pt_not (pt_val (pe_callB (kcall_isi (K := K)) (by rfl) B.isinstance (by decide +kernel) (pa_cons (pv 0) (pa_cons (pe_bltn (v := .ty "tuple") (by rfl) B.tuple' (by decide +kernel) rfl) pa_nil))))) (pw_or (pt_cmpR op_ne (pe_callB (kcall_len (K := K)) (by rfl) B.len PySem.boot_len (pa_cons (pv 0) pa_nil)) pe_int (nomark _)) (pw_or (pt_cmpR op_ne (pe_ix (kix_tup (K := K)) (pv 0) pe_int (fun _ _ => rfl)) pe_str (nomark _)) (pw_or1 (pt_not (pt_val (pe_def D__law_ratios hr pass0 (pa_cons (pe_ix (kix_tup (K := K)) (pv 0) pe_int (fun _ _ => rfl)) (pa_cons (pe_callB (kcall_len (K := K)) (by rfl) B.len PySem.boot_len (pa_cons (pv 1) pa_nil)) pa_nil)))))))))) (pss_one (ps_ret pe_bl)) pss_nil)
 (pss_cons (ps_for PassesOwn.never rfl (pi_range1 (by rfl) B.range (pa_cons (pv 3) pa_nil)) (pg_name (i := 4) sc__law_barred.nd rfl (Or.inr rfl)) (pss_one (ps_if (pt_not (pt_val (pe_def D__law_gives hr pass0 (pa_cons (pe_lc (own := [("_law_row", 5)]) (g := gName 5) (by rfl) sc__law_barred.nd (kpi_list (K := K) (pv 1)) (blkOk_by (N := ["_law_told", "_law_rows", "_law_wished", "_law_columns", "_law_at", "_law_row"]) (sc := defScope s__law_barred) (by decide +kernel)) (fun _ _ _ _ _ => (pg_name (i := 5) sc__law_barred.nd rfl (Or.inl rfl))) (fun _ _ _ _ _ => pts_nil) (fun _ _ _ _ _ => (pe_ix (kix_list (K := K)) (pv 5) (pv 4) (fun _ _ => rfl)))) (pa_cons (pe_ix (kix_tup (K := K)) (pv 0) pe_int (fun _ _ => rfl)) (pa_cons pe_int pa_nil)))))) (pss_one (ps_ret pe_bl)) pss_nil)))
 (pss_one (ps_ret (pe_def D__law_gives hr pass0 (pa_cons (pv 2) (pa_cons (pe_ix (kix_tup (K := K)) (pv 0) pe_int (fun _ _ => rfl)) (pa_cons pe_int pa_nil)))))))), fun fr Qv hret => ?_⟩)
  obtain ⟨p_law_told, p_law_rows, p_law_wished, p_law_columns⟩ := x
  replace h : m__law_barred p_law_told p_law_rows p_law_wished p_law_columns Q X := h
  unfold m__law_barred at h
  refine kn_seq (kn_if (wt_orC (wt_not (wt_b (we_cb (wa_cons (we_var rfl (wa_cons (we_cT (wa_nil (cb_isi ty_2 (show kitB "tuple" "tuple" = some true by decide +kernel) (⟨_, rfl, ?_⟩))))))))))))
  refine orK h (fun h => ?_) (fun c1 h => ?_)
  · refine wt_orC (wt_test (we_op (we_cb (wa_cons (we_var rfl (wa_nil (cy_len sp_2 (fun e4 => (we_cI (ops_neI (⟨_, rfl, ?_⟩)))))))))))
    refine orK h (fun h => ?_) (fun c5 h => ?_)
    · refine wt_orC (wt_test (we_op (we_op (we_var rfl (we_cI (ops_ix20 (we_cSy (z := "BARRED") (asc_of (by decide)) (by decide) (oy_neS (⟨_, rfl, ?_⟩)))))))))
      refine orK h (fun h => ?_) (fun c7 h => ?_)
      · refine wt_not (wt_b (we_callE (wa_cons (we_op (we_var rfl (we_cI (ops_ix21 (wa_cons (we_cb (wa_cons (we_var rfl (wa_nil (cy_len sy_L (fun e9 => (wa_nil ?_)))))))))))))))
        refine sps_W0 (p_law_told.2, ((p_law_rows).length : Int)) h (fun v10 h => ?_)
        refine ⟨_, rfl, ?_⟩
        exact ⟨rfl, h⟩
      exact ⟨rfl, h⟩
    exact ⟨rfl, h⟩
  refine ⟨fun hc => ?_, fun hc => ?_⟩
  · have h := h.1 hc
    refine kn_ret (we_cB ?_)
    exact hret _ h _
  · have h := h.2 hc
    refine kn_next ?_
    try dsimp only
    refine kn_seq (kn_forW (r := zI) (S := Unit) (fun s11 => [some (iz (z2 yS (yL (zRatio C_Ratio))) p_law_told), some (iz (yL (yL zI)) p_law_rows), some (iz (yL zI) p_law_wished), some (iz zI p_law_columns), none, none]) (fun s11 => []) () (wi_range (wa_cons (we_var rfl (wa_nil ?_)))))
    obtain ⟨g13, h⟩ := h
    refine ⟨_, rfl, (by have hb : big = 100000 := rfl; omega), (by have hb : big = 100000 := rfl; omega), ⟨_, _, _, _, _, rfl, rfl, (by and_intros), fun _ _ => tg_name, h, fun fr' le x12 s11 nx M hnx hbk h => ?_, fun s11 h => ?_⟩⟩
    · have hret := hret.fine le
      refine kn_if (wt_not (wt_b (we_callE (wa_cons (we_lcM (r := (yL zI)) (s := zI) (wi_yL (we_var rfl (⟨_, _, _, rfl, fun e17 => ⟨_, _, _, _, rfl, rfl, e17, fun _ => tg_name, h, fun x14 c k15 h => ?_, fun ys16 h eys16 => ?_⟩⟩))))))))
      · refine we_op (we_var rfl (we_var rfl ?_))
        obtain ⟨v19, ev19, h⟩ := h
        refine oy_ixL ev19 ?_
        exact ⟨rfl, _, rfl, h⟩
      refine wa_cons (we_op (we_var rfl (we_cI (ops_ix21 (wa_cons (we_cI (wa_nil ?_)))))))
      refine sps_W0 (ys16, p_law_told.2, (0 : Int)) h (fun v20 h => ?_)
      refine ⟨_, rfl, ⟨fun hc => ?_, fun hc => ?_⟩⟩
      · have h := h.1 hc
        refine kn_ret (we_cB ?_)
        exact hret _ h _
      · have h := h.2 hc
        refine kn_next ?_
        exact hnx () _ _ h (by and_intros) rfl
    try dsimp only
    refine kn_ret (we_callE (wa_cons (we_var rfl (wa_cons (we_op (we_var rfl (we_cI (ops_ix21 (wa_cons (we_cI (wa_nil ?_)))))))))))
    refine sps_W0 (p_law_wished, p_law_told.2, (1 : Int)) h (fun v21 h => ?_)
    exact hret _ h _
abbrev s__law_due : Stmt := topS 37
theorem sc__law_due : FnScope ["_law_rows", "_law_wished", "_law_columns", "_law_ranked", "_law_k", "_law_row", "_law_number"] ["_law_rows", "_law_wished", "_law_columns", "_law_ranked"] (defScope s__law_due) := ⟨rfl, rfl, rfl, by decide +kernel, rfl, by decide +kernel, by decide +kernel⟩
def m__law_due (p_law_rows : (List (List Int))) (p_law_wished : (List Int)) (p_law_columns : Int) (p_law_ranked : Bool) : DM (Option (List (Str ⊕ (Int ⊕ Bool)))) := fun Q X =>
  ifD (decide (((p_law_rows).length : Int) > (40 : Int))) (
  Q (some ([((.inl ("TooMany" : Str)) : (Str ⊕ (Int ⊕ Bool))), ((.inl ("rows" : Str)) : (Str ⊕ (Int ⊕ Bool))), ((.inr (.inl (40 : Int))) : (Str ⊕ (Int ⊕ Bool))), ((.inr (.inr true)) : (Str ⊕ (Int ⊕ Bool))), ((.inr (.inr false)) : (Str ⊕ (Int ⊕ Bool)))]))) (
  ifD ((!decide (p_law_rows = [])) && (decide (p_law_columns > (40 : Int)))) (
  Q (some ([((.inl ("TooMany" : Str)) : (Str ⊕ (Int ⊕ Bool))), ((.inl ("columns" : Str)) : (Str ⊕ (Int ⊕ Bool))), ((.inr (.inl (40 : Int))) : (Str ⊕ (Int ⊕ Bool))), ((.inr (.inr true)) : (Str ⊕ (Int ⊕ Bool))), ((.inr (.inr false)) : (Str ⊕ (Int ⊕ Bool)))]))) (
  forD (intsF 0 (((p_law_rows).length : Int)).toNat) () (fun x3 s2 nx bk =>
  ∃ v5, atI p_law_rows x3 = some v5 ∧
  joinD (fun j7 =>
  ifD (!p_law_ranked) (
  ∃ v8, atI p_law_wished x3 = some v8 ∧
  (v5).length + ([v8]).length ≤ big ∧
  ∀ row10, row10 = (v5 ++ [v8]) →
  j7 row10) (
  j7 v5)) (fun s6 : (List Int) =>
  forD s6 () (fun x12 s11 nx bk =>
  ifD ((decide (x12 < (-(1000000 : Int)))) || (decide (x12 > (1000000 : Int)))) (
  Q (some ([((.inl ("BadNumber" : Str)) : (Str ⊕ (Int ⊕ Bool))), ((.inr (.inl x12)) : (Str ⊕ (Int ⊕ Bool))), ((.inr (.inr true)) : (Str ⊕ (Int ⊕ Bool)))]))) (
  nx ())) (fun s11 =>
  nx ()))) (fun s2 =>
  Q (none : (Option (List (Str ⊕ (Int ⊕ Bool))))))))
theorem ok__law_due {k : Nat} {cs : EK → Addr} (B : Bl mg) 
    (F : Src K mg "_law_due" s__law_due ["_law_rows", "_law_wished", "_law_columns", "_law_ranked"]) : Def P w K mg base CX0 (k + 1) "_law_due" ["_law_rows", "_law_wished", "_law_columns", "_law_ranked"] (spA (preW (erW cs) (fun x : (List (List Int)) × (List Int) × Int × Bool => [iz (yL (yL zI)) x.1, iz (yL zI) x.2.1, iz zI x.2.2.1, iz zB x.2.2.2]) (yO (yL (yU yS (yU zI zB)))) (fun x => m__law_due x.1 x.2.1 x.2.2.1 x.2.2.2))) := by
  refine F.okW sc__law_due (fun _ => rfl) (fun f cdv A outer s H E x Q X hr h => ⟨_, (pss_cons (ps_if (pt_cmpR op_gt (pe_callB (kcall_len (K := K)) (by rfl) B.len PySem.boot_len (pa_cons (pv 0) pa_nil)) pe_int (nomark _)) (pss_one (ps_ret (pe_lst (pa_cons pe_str (pa_cons pe_str (pa_cons pe_int (pa_cons pe_bl (pa_cons pe_bl pa_nil)))))))) pss_nil)
 (pss_cons (ps_if (PW.pt (pw_and (pt_cmpR (kop_neD (K := K) hr.units) (pv 0) (pe_lst pa_nil) (nomark _)) (pw_and1 (pt_cmpR op_gt (pv 2) pe_int (nomark _))))) (pss_one (ps_ret (pe_lst (pa_cons pe_str (pa_cons pe_str (pa_cons pe_int (pa_cons pe_bl (pa_cons pe_bl pa_nil)))))))) pss_nil)
 (pss_cons (ps_for PassesOwn.never rfl (pi_range1 (by rfl) B.range (pa_cons (pe_callB (kcall_len (K := K)) (by rfl) B.len PySem.boot_len (pa_cons (pv 0) pa_nil)) pa_nil)) (pg_name (i := 4) sc__law_due.nd rfl (Or.inl rfl)) (pss_cons (ps_asg (pe_ix (kix_list (K := K)) (pv 0) (pv 4) (fun _ _ => rfl)) (pg_name (i := 5) sc__law_due.nd rfl (Or.inl rfl)))
 (C8.pss_cut (ps_if (pt_not (pt_val (pv 3))) (pss_one (ps_asg (pe_op op_cat (pv 5) (pe_lst (pa_cons (pe_ix (kix_list (K := K)) (pv 1) (pv 4) (fun _ _ => rfl)) pa_nil))) (pg_name (i := 5) sc__law_due.nd rfl (Or.inl rfl)))) pss_nil)
 (pss_one (ps_for PassesOwn.never rfl (kpi_list (K := K) (pv 5)) (pg_name (i := 6) sc__law_due.nd rfl (Or.inl rfl)) (pss_one (ps_if (PW.pt (pw_or (pt_cmpR op_lt (pv 6) (pe_un un_neg pe_int) (nomark _)) (pw_or1 (pt_cmpR op_gt (pv 6) pe_int (nomark _))))) (pss_one (ps_ret (pe_lst (pa_cons pe_str (pa_cons (pv 6) (pa_cons pe_bl pa_nil)))))) pss_nil)))))))
 (pss_one (ps_ret pe_non))))), fun fr Qv hret => ?_⟩)
  obtain ⟨p_law_rows, p_law_wished, p_law_columns, p_law_ranked⟩ := x
  replace h : m__law_due p_law_rows p_law_wished p_law_columns p_law_ranked Q X := h
  unfold m__law_due at h
  refine kn_seq (kn_if (wt_test (we_op (we_cb (wa_cons (we_var rfl (wa_nil (cy_len sy_L (fun e1 => (we_cI (ops_B0 (⟨_, rfl, ⟨fun hc => ?_, fun hc => ?_⟩⟩))))))))))))
  · have h := h.1 hc
    refine kn_ret (We.conv (we_lstY (r := (yU yS (yU zI zB))) (wa_cons (We.conv (we_cSy (z := "TooMany") (asc_of (by decide)) (by decide) (⟨iz (yU yS (yU zI zB)) (.inl ("TooMany" : Str)), fun F v h => h, wa_cons (We.conv (we_cSy (z := "rows") (asc_of (by decide)) (by decide) (⟨iz (yU yS (yU zI zB)) (.inl ("rows" : Str)), fun F v h => h, wa_cons (We.conv (we_cI (⟨iz (yU yS (yU zI zB)) (.inr (.inl (40 : Int))), fun F v h => h, wa_cons (We.conv (we_cB (⟨iz (yU yS (yU zI zB)) (.inr (.inr true)), fun F v h => h, wa_cons (We.conv (we_cB (⟨iz (yU yS (yU zI zB)) (.inr (.inr false)), fun F v h => h, wa_nil (⟨[((.inl ("TooMany" : Str)) : (Str ⊕ (Int ⊕ Bool))), ((.inl ("rows" : Str)) : (Str ⊕ (Int ⊕ Bool))), ((.inr (.inl (40 : Int))) : (Str ⊕ (Int ⊕ Bool))), ((.inr (.inr true)) : (Str ⊕ (Int ⊕ Bool))), ((.inr (.inr false)) : (Str ⊕ (Int ⊕ Bool)))], rfl, Nat.le_of_ble_eq_true rfl, ⟨_, le_Os, ?_⟩⟩)⟩)))⟩)))⟩)))⟩)))⟩))))))
    exact hret _ h _
  · have h := h.2 hc
    refine kn_next ?_
    try dsimp only
    refine kn_seq (kn_if (wt_andP (wt_test (we_op (we_var rfl (we_lstY (r := (yL zI)) (wa_nil (⟨[], rfl, Nat.le_of_ble_eq_true rfl, ops_neD (r := (yL (yL zI))) (by decide) (⟨_, rfl, ⟨_, fun _ => wt_test (we_op (we_var rfl (we_cI (ops_B0 (⟨_, rfl, ⟨rfl, rfl⟩⟩))))), ⟨fun hc => ?_, fun hc => ?_⟩⟩⟩)⟩))))))))
    · have h := h.1 hc
      refine kn_ret (We.conv (we_lstY (r := (yU yS (yU zI zB))) (wa_cons (We.conv (we_cSy (z := "TooMany") (asc_of (by decide)) (by decide) (⟨iz (yU yS (yU zI zB)) (.inl ("TooMany" : Str)), fun F v h => h, wa_cons (We.conv (we_cSy (z := "columns") (asc_of (by decide)) (by decide) (⟨iz (yU yS (yU zI zB)) (.inl ("columns" : Str)), fun F v h => h, wa_cons (We.conv (we_cI (⟨iz (yU yS (yU zI zB)) (.inr (.inl (40 : Int))), fun F v h => h, wa_cons (We.conv (we_cB (⟨iz (yU yS (yU zI zB)) (.inr (.inr true)), fun F v h => h, wa_cons (We.conv (we_cB (⟨iz (yU yS (yU zI zB)) (.inr (.inr false)), fun F v h => h, wa_nil (⟨[((.inl ("TooMany" : Str)) : (Str ⊕ (Int ⊕ Bool))), ((.inl ("columns" : Str)) : (Str ⊕ (Int ⊕ Bool))), ((.inr (.inl (40 : Int))) : (Str ⊕ (Int ⊕ Bool))), ((.inr (.inr true)) : (Str ⊕ (Int ⊕ Bool))), ((.inr (.inr false)) : (Str ⊕ (Int ⊕ Bool)))], rfl, Nat.le_of_ble_eq_true rfl, ⟨_, le_Os, ?_⟩⟩)⟩)))⟩)))⟩)))⟩)))⟩))))))
      exact hret _ h _
    · have h := h.2 hc
      refine kn_next ?_
      try dsimp only
      refine kn_seq (kn_forW (r := zI) (S := Unit) (fun s2 => [some (iz (yL (yL zI)) p_law_rows), some (iz (yL zI) p_law_wished), some (iz zI p_law_columns), some (iz zB p_law_ranked), none, none, none]) (fun s2 => []) () (wi_range (wa_cons (we_cb (wa_cons (we_var rfl (wa_nil (cy_len sy_L (fun e4 => (wa_nil (⟨_, rfl, (by have hb : big = 100000 := rfl; omega), (by have hb : big = 100000 := rfl; omega), ⟨_, _, _, _, _, rfl, rfl, (by and_intros), fun _ _ => tg_name, h, fun fr' le x3 s2 nx M hnx hbk h => ?_, fun s2 h => ?_⟩⟩)))))))))))
      · have hret := hret.fine le
        refine kn_seq (kn_asg (i := 5) (we_op (we_var rfl (we_var rfl ?_))))
        obtain ⟨v5, ev5, h⟩ := h
        refine oy_ixL ev5 ?_
        refine kn_nrm (Γ' := [some (iz (yL (yL zI)) p_law_rows), some (iz (yL zI) p_law_wished), some (iz zI p_law_columns), some (iz zB p_law_ranked), some (iz zI x3), some (iz (yL zI) v5), none]) rfl ?_
        try dsimp only
        refine kn_cutW (S := (List Int)) (fun s6 => [some (iz (yL (yL zI)) p_law_rows), some (iz (yL zI) p_law_wished), some (iz zI p_law_columns), some (iz zB p_law_ranked), some (iz zI x3), some (iz (yL zI) s6), none]) (fun s6 => []) h (fun M hjn h => ?_) (fun s6 h => ?_)
        · refine kn_if (wt_not (wt_b (we_var rfl (⟨_, rfl, ⟨fun hc => ?_, fun hc => ?_⟩⟩))))
          · have h := h.1 hc
            refine kn_asgL (i := 5) (r := (yL zI)) (we_op (we_var rfl (we_lstY (r := zI) (wa_cons (we_op (we_var rfl (we_var rfl ?_)))))))
            obtain ⟨v8, ev8, h⟩ := h
            refine oy_ixL ev8 (wa_nil (⟨[v8], rfl, Nat.le_of_ble_eq_true rfl, ?_⟩))
            obtain ⟨g9, h⟩ := h
            refine oy_cat g9 (⟨_, rfl, fun row10 erow10 => ?_⟩)
            have h := h row10 erow10
            exact hjn row10 _ _ h (by and_intros) rfl
          · have h := h.2 hc
            refine kn_next ?_
            exact hjn v5 _ _ h (by and_intros) rfl
        try dsimp only
        refine kn_forW (r := zI) (S := Unit) (fun s11 => [some (iz (yL (yL zI)) p_law_rows), some (iz (yL zI) p_law_wished), some (iz zI p_law_columns), some (iz zB p_law_ranked), some (iz zI x3), some (iz (yL zI) s6), none]) (fun s11 => []) () (wi_yL (we_var rfl (⟨_, _, _, rfl, fun e13 => ⟨_, _, _, _, _, rfl, rfl, (by and_intros), fun _ _ => tg_name, h, fun fr' le x12 s11 nx M hnx hbk h => ?_, fun s11 h => ?_⟩⟩)))
        · have hret := hret.fine le
          refine kn_if (wt_orP (wt_test (we_op (we_var rfl (we_un (we_cI (uns_I (ops_B0 (⟨_, rfl, ⟨_, fun _ => wt_test (we_op (we_var rfl (we_cI (ops_B0 (⟨_, rfl, ⟨rfl, rfl⟩⟩))))), ⟨fun hc => ?_, fun hc => ?_⟩⟩⟩)))))))))
          · have h := h.1 hc
            refine kn_ret (We.conv (we_lstY (r := (yU yS (yU zI zB))) (wa_cons (We.conv (we_cSy (z := "BadNumber") (asc_of (by decide)) (by decide) (⟨iz (yU yS (yU zI zB)) (.inl ("BadNumber" : Str)), fun F v h => h, wa_cons (We.conv (we_var rfl (⟨iz (yU yS (yU zI zB)) (.inr (.inl x12)), fun F v h => h, wa_cons (We.conv (we_cB (⟨iz (yU yS (yU zI zB)) (.inr (.inr true)), fun F v h => h, wa_nil (⟨[((.inl ("BadNumber" : Str)) : (Str ⊕ (Int ⊕ Bool))), ((.inr (.inl x12)) : (Str ⊕ (Int ⊕ Bool))), ((.inr (.inr true)) : (Str ⊕ (Int ⊕ Bool)))], rfl, Nat.le_of_ble_eq_true rfl, ⟨_, le_Os, ?_⟩⟩)⟩)))⟩)))⟩))))))
            exact hret _ h _
          · have h := h.2 hc
            refine kn_next ?_
            exact hnx () _ _ h (by and_intros) rfl
        exact hnx () _ _ h (by and_intros) rfl
      try dsimp only
      refine kn_ret (We.conv (we_cNy (⟨_, (le_On (r := (yL (yU yS (yU zI zB))))), ?_⟩)))
      exact hret _ h _
end
section
variable {P : Program} {w : World} {K : PySem.W.Frag} {mg : Str → Option Value} {base : Heap}
abbrev s__law_asked : Stmt := topS 36
theorem sc__law_asked : FnScope ["_law_rows", "_law_wished", "_law_ranked", "_law_told", "e"] ["_law_rows", "_law_wished", "_law_ranked"] (defScope s__law_asked) := ⟨rfl, rfl, rfl, by decide +kernel, rfl, by decide +kernel, by decide +kernel⟩
def m__law_asked (p_law_rows : (List (List Int))) (p_law_wished : (List Int)) (p_law_ranked : Bool) : DM (Option (Int ⊕ ((Str × (List (Int × Int))) ⊕ (List (Str ⊕ (Int ⊕ Bool)))))) := fun Q X =>
  ∀ told1, told1 = (none : (Option (Int ⊕ ((Str × (List (Int × Int))) ⊕ (List (Str ⊕ (Int ⊕ Bool))))))) →
  joinD (fun j3 =>
  tryD (fun e => match e with
  | .tooMany y7 y8 => ∀ told11, told11 = (some ((.inr (.inr ([((.inl ("TooMany" : Str)) : (Str ⊕ (Int ⊕ Bool))), ((.inl y7) : (Str ⊕ (Int ⊕ Bool))), ((.inr (.inl y8)) : (Str ⊕ (Int ⊕ Bool))), ((.inr (.inr true)) : (Str ⊕ (Int ⊕ Bool))), ((.inr (.inr false)) : (Str ⊕ (Int ⊕ Bool)))]))) : (Int ⊕ ((Str × (List (Int × Int))) ⊕ (List (Str ⊕ (Int ⊕ Bool))))))) →
  j3 told11
  | .badNumber y12 => ∀ told15, told15 = (some ((.inr (.inr ([((.inl ("BadNumber" : Str)) : (Str ⊕ (Int ⊕ Bool))), ((.inr (.inl y12)) : (Str ⊕ (Int ⊕ Bool))), ((.inr (.inr true)) : (Str ⊕ (Int ⊕ Bool)))]))) : (Int ⊕ ((Str × (List (Int × Int))) ⊕ (List (Str ⊕ (Int ⊕ Bool))))))) →
  j3 told15
  | e => noX e) (fun X4 =>
  ifD p_law_ranked (
  m_rank_of p_law_rows (fun v5 =>
  ∀ told16, told16 = (some ((.inl v5) : (Int ⊕ ((Str × (List (Int × Int))) ⊕ (List (Str ⊕ (Int ⊕ Bool))))))) →
  j3 told16) X4) (
  m_solve p_law_rows p_law_wished (fun v17 =>
  ∀ told28, told28 = (some ((.inr (.inl v17)) : (Int ⊕ ((Str × (List (Int × Int))) ⊕ (List (Str ⊕ (Int ⊕ Bool))))))) →
  j3 told28) X4))) (fun s2 : (Option (Int ⊕ ((Str × (List (Int × Int))) ⊕ (List (Str ⊕ (Int ⊕ Bool)))))) =>
  Q s2)
theorem ok__law_asked {k : Nat} {cs : EK → Addr} {C_HeldError f_TooMany f_BadNumber C_Ratio : Addr} (B : Bl mg) (D_rank_of : Def P w K mg base (L2.CX P w) k "rank_of" ["rows"] (spA (preW (erW cs) (fun x : (List (List Int)) => [iz (yL (yL zI)) x]) zI (fun x => m_rank_of x)))) (D_solve : Def P w K mg base (L2.CX P w) k "solve" ["rows", "wished"] (spA (preW (erW cs) (fun x : (List (List Int)) × (List Int) => [iz (yL (yL zI)) x.1, iz (yL zI) x.2]) (z2 yS (yL (zRatio C_Ratio))) (fun x => m_solve x.1 x.2)))) (g_HeldError : Glo mg "HeldError" (.ref C_HeldError)) (g_BadNumber : Glo mg "BadNumber" (.ref (cs .badNumber))) (X_TooMany : ErrTxt P K mg true "TooMany" (cs .tooMany) f_TooMany ["kind", "limit"]) (X_BadNumber : ErrTxt P K mg false "BadNumber" (cs .badNumber) f_BadNumber ["number"]) (kt_BadNumber_HeldError : PySem.W.kitOne K (.ref (cs .badNumber)) (.ref C_HeldError) = some true) (kt_TooMany_BadNumber : PySem.W.kitOne K (.ref (cs .tooMany)) (.ref (cs .badNumber)) = some false) (kt_TooMany_HeldError : PySem.W.kitOne K (.ref (cs .tooMany)) (.ref C_HeldError) = some true) (xN_BadNumber_TooMany : PySem.W.exmOne K (.ref (cs .badNumber)) (.ref (cs .tooMany)) = some false)
    (F : Src K mg "_law_asked" s__law_asked ["_law_rows", "_law_wished", "_law_ranked"]) : Def P w K mg base CX0 (k + 1) "_law_asked" ["_law_rows", "_law_wished", "_law_ranked"] (spA (preW (erW cs) (fun x : (List (List Int)) × (List Int) × Bool => [iz (yL (yL zI)) x.1, iz (yL zI) x.2.1, iz zB x.2.2]) (yO (yU zI (yU (z2 yS (yL (zRatio C_Ratio))) (yL (yU yS (yU zI zB)))))) (fun x => m__law_asked x.1 x.2.1 x.2.2))) := by
  refine F.okW sc__law_asked (fun _ => rfl) (fun f cdv A outer s H E x Q X hr h => ⟨_, (pss_cons (ps_asg pe_non (pg_name (i := 3) sc__law_asked.nd rfl (Or.inl rfl)))
 (C8.pss_cut (ps_try_all (K := K) rfl rfl sc__law_asked.nd takes0 (fun W pn xe tk _ => (pss_one (ps_if (pt_val (pv 2)) (pss_one (ps_asg (pe_defS D_rank_of hr (fun σ => passAt tk σ) (pa_cons (pv 0) pa_nil)) (pg_name (i := 3) sc__law_asked.nd rfl (Or.inl rfl)))) (pss_one (ps_asg (pe_defS D_solve hr (fun σ => passAt tk σ) (pa_cons (pv 0) (pa_cons (pv 1) pa_nil))) (pg_name (i := 3) sc__law_asked.nd rfl (Or.inl rfl))))))) (by exact (.named (i := 4) rfl rfl ⟨rfl, by decide, .inl X_TooMany.gC⟩ (fun a oe cls d pn hz hf => (pss_one (ps_asg (pe_lst (pa_cons pe_str (pa_cons (pe_xf X_TooMany.xf (X_TooMany.noN _ (by decide)) hz hf (pv 4)) (pa_cons (pe_xf X_TooMany.xf (X_TooMany.noN _ (by decide)) hz hf (pv 4)) (pa_cons (pe_callB (call_isD hz hf) (by rfl) B.isinstance (by decide +kernel) (pa_cons (pv 4) (pa_cons (pe_glo g_HeldError) pa_nil))) (pa_cons (pe_callB (call_isD hz hf) (by rfl) B.isinstance (by decide +kernel) (pa_cons (pv 4) (pa_cons (pe_glo g_BadNumber) pa_nil))) pa_nil)))))) (pg_name (i := 3) sc__law_asked.nd rfl (Or.inl rfl))))) (.named (i := 4) rfl rfl ⟨rfl, by decide, .inl X_BadNumber.gC⟩ (fun a oe cls d pn hz hf => (pss_one (ps_asg (pe_lst (pa_cons pe_str (pa_cons (pe_xf X_BadNumber.xf (X_BadNumber.noN _ (by decide)) hz hf (pv 4)) (pa_cons (pe_callB (call_isD hz hf) (by rfl) B.isinstance (by decide +kernel) (pa_cons (pv 4) (pa_cons (pe_glo g_HeldError) pa_nil))) pa_nil)))) (pg_name (i := 3) sc__law_asked.nd rfl (Or.inl rfl))))) .nil))))
 (pss_one (ps_ret (pv 3))))), fun fr Qv hret => ?_⟩)
  obtain ⟨p_law_rows, p_law_wished, p_law_ranked⟩ := x
  replace h : m__law_asked p_law_rows p_law_wished p_law_ranked Q X := h
  unfold m__law_asked at h
  refine kn_seq (kn_asgL (i := 3) (r := (yO (yU zI (yU (z2 yS (yL (zRatio C_Ratio))) (yL (yU yS (yU zI zB))))))) (We.conv (we_cNy (⟨_, (le_On (r := (yU zI (yU (z2 yS (yL (zRatio C_Ratio))) (yL (yU yS (yU zI zB))))))), ⟨_, rfl, fun told1 etold1 => ?_⟩⟩))))
  have h := h told1 etold1
  refine kn_nrm (Γ' := [some (iz (yL (yL zI)) p_law_rows), some (iz (yL zI) p_law_wished), some (iz zB p_law_ranked), some (iz (yO (yU zI (yU (z2 yS (yL (zRatio C_Ratio))) (yL (yU yS (yU zI zB)))))) told1), none]) rfl ?_
  try dsimp only
  refine kn_cutW (S := (Option (Int ⊕ ((Str × (List (Int × Int))) ⊕ (List (Str ⊕ (Int ⊕ Bool))))))) (fun s2 => [some (iz (yL (yL zI)) p_law_rows), some (iz (yL zI) p_law_wished), some (iz zB p_law_ranked), some (iz (yO (yU zI (yU (z2 yS (yL (zRatio C_Ratio))) (yL (yU yS (yU zI zB)))))) s2), none]) (fun s2 => []) h (fun M hjn h => ?_) (fun s2 h => ?_)
  · replace h := tryD.go h
    try dsimp only
    refine kn_if (wt_b (we_var rfl (⟨_, rfl, ⟨fun hc => ?_, fun hc => ?_⟩⟩)))
    · have h := h.1 hc
      refine kn_asgL (i := 3) (r := (yO (yU zI (yU (z2 yS (yL (zRatio C_Ratio))) (yL (yU yS (yU zI zB))))))) (We.conv (we_callS (wa_cons (we_var rfl (wa_nil ?_)))))
      refine sps_WT p_law_rows h (fun zv6 h => ?_) (fun v5 h => ?_)
      · cases zv6 with
        | tooMany y7 y8 =>
          try dsimp only at h
          refine kr_cl X_TooMany.te fun a9 d10 => ?_
          try dsimp only
          refine kn_asgL (i := 3) (r := (yO (yU zI (yU (z2 yS (yL (zRatio C_Ratio))) (yL (yU yS (yU zI zB))))))) (We.conv (We.conv (we_lstY (r := (yU yS (yU zI zB))) (wa_cons (We.conv (we_cSy (z := "TooMany") (asc_of (by decide)) (by decide) (⟨iz (yU yS (yU zI zB)) (.inl ("TooMany" : Str)), fun F v h => h, wa_cons (We.conv (we_xf (we_var rfl (⟨rfl, rfl, ⟨iz (yU yS (yU zI zB)) (.inl y7), fun F v h => h, wa_cons (We.conv (we_xf (we_var rfl (⟨rfl, rfl, ⟨iz (yU yS (yU zI zB)) (.inr (.inl y8)), fun F v h => h, wa_cons (We.conv (we_cb (wa_cons (we_var rfl (wa_cons (we_cA (wa_nil (cb_isD X_TooMany.isC kt_TooMany_HeldError (⟨iz (yU yS (yU zI zB)) (.inr (.inr true)), fun F v h => h, wa_cons (We.conv (we_cb (wa_cons (we_var rfl (wa_cons (we_cA (wa_nil (cb_isD X_TooMany.isC kt_TooMany_BadNumber (⟨iz (yU yS (yU zI zB)) (.inr (.inr false)), fun F v h => h, wa_nil (⟨[((.inl ("TooMany" : Str)) : (Str ⊕ (Int ⊕ Bool))), ((.inl y7) : (Str ⊕ (Int ⊕ Bool))), ((.inr (.inl y8)) : (Str ⊕ (Int ⊕ Bool))), ((.inr (.inr true)) : (Str ⊕ (Int ⊕ Bool))), ((.inr (.inr false)) : (Str ⊕ (Int ⊕ Bool)))], rfl, Nat.le_of_ble_eq_true rfl, ⟨iz (yU zI (yU (z2 yS (yL (zRatio C_Ratio))) (yL (yU yS (yU zI zB))))) (.inr (.inr ([((.inl ("TooMany" : Str)) : (Str ⊕ (Int ⊕ Bool))), ((.inl y7) : (Str ⊕ (Int ⊕ Bool))), ((.inr (.inl y8)) : (Str ⊕ (Int ⊕ Bool))), ((.inr (.inr true)) : (Str ⊕ (Int ⊕ Bool))), ((.inr (.inr false)) : (Str ⊕ (Int ⊕ Bool)))]))), fun F v h => h, ⟨_, le_Os, ⟨_, rfl, fun told11 etold11 => ?_⟩⟩⟩⟩)⟩)))))))))⟩)))))))))⟩⟩))))⟩⟩))))⟩)))))))
          have h := h told11 etold11
          refine kn_suite ?_
          try dsimp only
          exact hjn told11 _ _ h (by and_intros) rfl
        | badNumber y12 =>
          try dsimp only at h
          refine kr_clN xN_BadNumber_TooMany ?_
          refine kr_cl X_BadNumber.te fun a13 d14 => ?_
          try dsimp only
          refine kn_asgL (i := 3) (r := (yO (yU zI (yU (z2 yS (yL (zRatio C_Ratio))) (yL (yU yS (yU zI zB))))))) (We.conv (We.conv (we_lstY (r := (yU yS (yU zI zB))) (wa_cons (We.conv (we_cSy (z := "BadNumber") (asc_of (by decide)) (by decide) (⟨iz (yU yS (yU zI zB)) (.inl ("BadNumber" : Str)), fun F v h => h, wa_cons (We.conv (we_xf (we_var rfl (⟨rfl, rfl, ⟨iz (yU yS (yU zI zB)) (.inr (.inl y12)), fun F v h => h, wa_cons (We.conv (we_cb (wa_cons (we_var rfl (wa_cons (we_cA (wa_nil (cb_isD X_BadNumber.isC kt_BadNumber_HeldError (⟨iz (yU yS (yU zI zB)) (.inr (.inr true)), fun F v h => h, wa_nil (⟨[((.inl ("BadNumber" : Str)) : (Str ⊕ (Int ⊕ Bool))), ((.inr (.inl y12)) : (Str ⊕ (Int ⊕ Bool))), ((.inr (.inr true)) : (Str ⊕ (Int ⊕ Bool)))], rfl, Nat.le_of_ble_eq_true rfl, ⟨iz (yU zI (yU (z2 yS (yL (zRatio C_Ratio))) (yL (yU yS (yU zI zB))))) (.inr (.inr ([((.inl ("BadNumber" : Str)) : (Str ⊕ (Int ⊕ Bool))), ((.inr (.inl y12)) : (Str ⊕ (Int ⊕ Bool))), ((.inr (.inr true)) : (Str ⊕ (Int ⊕ Bool)))]))), fun F v h => h, ⟨_, le_Os, ⟨_, rfl, fun told15 etold15 => ?_⟩⟩⟩⟩)⟩)))))))))⟩⟩))))⟩)))))))
          have h := h told15 etold15
          refine kn_suite ?_
          try dsimp only
          exact hjn told15 _ _ h (by and_intros) rfl
        | _ => exact (show False from h).elim
      refine ⟨_, (show Vp.Le (iz zI v5) (iz (yO (yU zI (yU (z2 yS (yL (zRatio C_Ratio))) (yL (yU yS (yU zI zB)))))) (some ((.inl v5) : (Int ⊕ ((Str × (List (Int × Int))) ⊕ (List (Str ⊕ (Int ⊕ Bool)))))))) from fun F v h => ((show Vp.Le (iz zI v5) (iz (yU zI (yU (z2 yS (yL (zRatio C_Ratio))) (yL (yU yS (yU zI zB))))) ((.inl v5) : (Int ⊕ ((Str × (List (Int × Int))) ⊕ (List (Str ⊕ (Int ⊕ Bool))))))) from fun F v h => h) : Vp.Le (iz zI _) (iz (yU zI (yU (z2 yS (yL (zRatio C_Ratio))) (yL (yU yS (yU zI zB))))) _)) F v h), ⟨_, rfl, fun told16 etold16 => ?_⟩⟩
      have h := h told16 etold16
      exact hjn told16 _ _ h (by and_intros) rfl
    · have h := h.2 hc
      refine kn_asgL (i := 3) (r := (yO (yU zI (yU (z2 yS (yL (zRatio C_Ratio))) (yL (yU yS (yU zI zB))))))) (We.conv (we_callS (wa_cons (we_var rfl (wa_cons (we_var rfl (wa_nil ?_)))))))
      refine sps_WT (p_law_rows, p_law_wished) h (fun zv18 h => ?_) (fun v17 h => ?_)
      · cases zv18 with
        | tooMany y19 y20 =>
          try dsimp only at h
          refine kr_cl X_TooMany.te fun a21 d22 => ?_
          try dsimp only
          refine kn_asgL (i := 3) (r := (yO (yU zI (yU (z2 yS (yL (zRatio C_Ratio))) (yL (yU yS (yU zI zB))))))) (We.conv (We.conv (we_lstY (r := (yU yS (yU zI zB))) (wa_cons (We.conv (we_cSy (z := "TooMany") (asc_of (by decide)) (by decide) (⟨iz (yU yS (yU zI zB)) (.inl ("TooMany" : Str)), fun F v h => h, wa_cons (We.conv (we_xf (we_var rfl (⟨rfl, rfl, ⟨iz (yU yS (yU zI zB)) (.inl y19), fun F v h => h, wa_cons (We.conv (we_xf (we_var rfl (⟨rfl, rfl, ⟨iz (yU yS (yU zI zB)) (.inr (.inl y20)), fun F v h => h, wa_cons (We.conv (we_cb (wa_cons (we_var rfl (wa_cons (we_cA (wa_nil (cb_isD X_TooMany.isC kt_TooMany_HeldError (⟨iz (yU yS (yU zI zB)) (.inr (.inr true)), fun F v h => h, wa_cons (We.conv (we_cb (wa_cons (we_var rfl (wa_cons (we_cA (wa_nil (cb_isD X_TooMany.isC kt_TooMany_BadNumber (⟨iz (yU yS (yU zI zB)) (.inr (.inr false)), fun F v h => h, wa_nil (⟨[((.inl ("TooMany" : Str)) : (Str ⊕ (Int ⊕ Bool))), ((.inl y19) : (Str ⊕ (Int ⊕ Bool))), ((.inr (.inl y20)) : (Str ⊕ (Int ⊕ Bool))), ((.inr (.inr true)) : (Str ⊕ (Int ⊕ Bool))), ((.inr (.inr false)) : (Str ⊕ (Int ⊕ Bool)))], rfl, Nat.le_of_ble_eq_true rfl, ⟨iz (yU zI (yU (z2 yS (yL (zRatio C_Ratio))) (yL (yU yS (yU zI zB))))) (.inr (.inr ([((.inl ("TooMany" : Str)) : (Str ⊕ (Int ⊕ Bool))), ((.inl y19) : (Str ⊕ (Int ⊕ Bool))), ((.inr (.inl y20)) : (Str ⊕ (Int ⊕ Bool))), ((.inr (.inr true)) : (Str ⊕ (Int ⊕ Bool))), ((.inr (.inr false)) : (Str ⊕ (Int ⊕ Bool)))]))), fun F v h => h, ⟨_, le_Os, ⟨_, rfl, fun told23 etold23 => ?_⟩⟩⟩⟩)⟩)))))))))⟩)))))))))⟩⟩))))⟩⟩))))⟩)))))))
          have h := h told23 etold23
          refine kn_suite ?_
          try dsimp only
          exact hjn told23 _ _ h (by and_intros) rfl
        | badNumber y24 =>
          try dsimp only at h
          refine kr_clN xN_BadNumber_TooMany ?_
          refine kr_cl X_BadNumber.te fun a25 d26 => ?_
          try dsimp only
          refine kn_asgL (i := 3) (r := (yO (yU zI (yU (z2 yS (yL (zRatio C_Ratio))) (yL (yU yS (yU zI zB))))))) (We.conv (We.conv (we_lstY (r := (yU yS (yU zI zB))) (wa_cons (We.conv (we_cSy (z := "BadNumber") (asc_of (by decide)) (by decide) (⟨iz (yU yS (yU zI zB)) (.inl ("BadNumber" : Str)), fun F v h => h, wa_cons (We.conv (we_xf (we_var rfl (⟨rfl, rfl, ⟨iz (yU yS (yU zI zB)) (.inr (.inl y24)), fun F v h => h, wa_cons (We.conv (we_cb (wa_cons (we_var rfl (wa_cons (we_cA (wa_nil (cb_isD X_BadNumber.isC kt_BadNumber_HeldError (⟨iz (yU yS (yU zI zB)) (.inr (.inr true)), fun F v h => h, wa_nil (⟨[((.inl ("BadNumber" : Str)) : (Str ⊕ (Int ⊕ Bool))), ((.inr (.inl y24)) : (Str ⊕ (Int ⊕ Bool))), ((.inr (.inr true)) : (Str ⊕ (Int ⊕ Bool)))], rfl, Nat.le_of_ble_eq_true rfl, ⟨iz (yU zI (yU (z2 yS (yL (zRatio C_Ratio))) (yL (yU yS (yU zI zB))))) (.inr (.inr ([((.inl ("BadNumber" : Str)) : (Str ⊕ (Int ⊕ Bool))), ((.inr (.inl y24)) : (Str ⊕ (Int ⊕ Bool))), ((.inr (.inr true)) : (Str ⊕ (Int ⊕ Bool)))]))), fun F v h => h, ⟨_, le_Os, ⟨_, rfl, fun told27 etold27 => ?_⟩⟩⟩⟩)⟩)))))))))⟩⟩))))⟩)))))))
          have h := h told27 etold27
          refine kn_suite ?_
          try dsimp only
          exact hjn told27 _ _ h (by and_intros) rfl
        | _ => exact (show False from h).elim
      refine ⟨_, (show Vp.Le (iz (z2 yS (yL (zRatio C_Ratio))) v17) (iz (yO (yU zI (yU (z2 yS (yL (zRatio C_Ratio))) (yL (yU yS (yU zI zB)))))) (some ((.inr (.inl v17)) : (Int ⊕ ((Str × (List (Int × Int))) ⊕ (List (Str ⊕ (Int ⊕ Bool)))))))) from fun F v h => ((show Vp.Le (iz (z2 yS (yL (zRatio C_Ratio))) v17) (iz (yU zI (yU (z2 yS (yL (zRatio C_Ratio))) (yL (yU yS (yU zI zB))))) ((.inr (.inl v17)) : (Int ⊕ ((Str × (List (Int × Int))) ⊕ (List (Str ⊕ (Int ⊕ Bool))))))) from fun F v h => h) : Vp.Le (iz (z2 yS (yL (zRatio C_Ratio))) _) (iz (yU zI (yU (z2 yS (yL (zRatio C_Ratio))) (yL (yU yS (yU zI zB))))) _)) F v h), ⟨_, rfl, fun told28 etold28 => ?_⟩⟩
      have h := h told28 etold28
      exact hjn told28 _ _ h (by and_intros) rfl
  try dsimp only
  refine kn_ret (We.conv (we_var rfl (⟨_, Vp.Le.refl _, ?_⟩)))
  exact hret _ h _
abbrev s_law : Stmt := topS 38
theorem sc_law : FnScope ["_law_script", "_law_bag_here", "_law_many", "_law_columns", "_law_rows", "_law_wished", "_law_k", "_law_number", "_law_row", "_law_at", "_law_due_here", "_law_told"] ["_law_script"] (defScope s_law) := ⟨rfl, rfl, rfl, by decide +kernel, rfl, by decide +kernel, by decide +kernel⟩
def m_law  : DM Bool := fun Q X =>
  m_draw (7 : Int) (fun v1 =>
  ∃ v2, atI ([(0 : Int), (1 : Int), (2 : Int), (39 : Int), (40 : Int), (41 : Int), (42 : Int)]) v1 = some v2 ∧
  m_draw (7 : Int) (fun v3 =>
  ∃ v4, atI ([(0 : Int), (1 : Int), (2 : Int), (39 : Int), (40 : Int), (41 : Int), (42 : Int)]) v3 = some v4 ∧
  (-1000000 ≤ v4 ∧ v4 ≤ (big : Nat)) ∧
  (-100000 ≤ v2 ∧ v2 ≤ 100000) ∧
  (-1000000 ≤ v2 ∧ v2 ≤ (big : Nat)) ∧
  m_draw (4 : Int) (fun v15 =>
  (-100000 ≤ v15 ∧ v15 ≤ 100000) ∧
  forD (intsF 0 (v15).toNat) ((((intsF 0 (v2).toNat)).map fun x5 => (List.replicate (v4).toNat (0 : Int))), (List.replicate (v2).toNat (0 : Int))) (fun x14 s13 nx bk =>
  m_draw (6 : Int) (fun v18 =>
  ∀ number19, number19 = ((999998 : Int) + v18) →
  joinD (fun j21 =>
  m_draw (2 : Int) (fun v22 =>
  ifD (decide (v22 = (1 : Int))) (
  ∀ number23, number23 = (-number19) →
  j21 number23) (
  j21 number19)) noX) (fun s20 : Int =>
  ifD (decide (v2 > (0 : Int))) (
  m_draw v2 (fun v25 =>
  ∃ m28, ixN (s13.1).length v25 = some m28 ∧ ∃ v26, (s13.1)[m28]? = some v26 ∧
  m_draw (v4 + (1 : Int)) (fun v29 =>
  ifD (decide (v29 < v4)) (
  ∃ m30, ixN (v26).length v29 = some m30 ∧
  nx (((s13.1).set m28 ((v26).set m30 s20)), s13.2)) (
  m_draw v2 (fun v32 =>
  ∃ m33, ixN (s13.2).length v32 = some m33 ∧
  nx (s13.1, ((s13.2).set m33 s20))) noX)) noX) noX) (
  nx (s13.1, s13.2)))) noX) (fun s13 =>
  m__law_due s13.1 s13.2 v4 true (fun v35 =>
  m__law_asked ((s13.1).map fun x36 => x36) s13.2 true (fun v38 =>
  andD ((v35).isNone) (fun k40 => ∃ zv41 : Int, v38 = (some (.inl zv41)) ∧
  m__law_int zv41 (fun v42 =>
  k40 (!v42)) noX) (fun c39 =>
  orD c39 (fun k44 => andD ((v35).isSome) (fun k46 => ∃ zv47 : (List (Str ⊕ (Int ⊕ Bool))), v38 = (some (.inr (.inr zv47))) ∧
  k46 (!PyData.eqv (EDat.enc (r := (yL (yU yS (yU zI zB)))) zv47) (EDat.enc (r := (yO (yL (yU yS (yU zI zB))))) v35))) (fun c45 =>
  k44 c45)) (fun c43 =>
  ifD c43 (
  Q false) (
  m__law_due s13.1 s13.2 v4 false (fun v48 =>
  m__law_asked ((s13.1).map fun x49 => x49) s13.2 false (fun v51 =>
  optD v48 (∃ told53 : (Str × (List (Int × Int))), v51 = (some (.inr (.inl told53))) ∧
  ifD (decide (s13.1 = [])) (
  (told53).2 = [] ∧
  Q (true && (decide ((((told53).1, []) : (Str × (List Int))) = (("SOLVED" : Str), []))))) (
  m__law_solved told53 s13.1 s13.2 v4 (fun v55 =>
  orD v55 (fun k57 => m__law_barred told53 s13.1 s13.2 v4 (fun v58 =>
  k57 v58) noX) (fun c56 =>
  Q c56)) noX)) (fun due52 =>
  ∃ told59 : (List (Str ⊕ (Int ⊕ Bool))), v51 = (some (.inr (.inr told59))) ∧
  Q (true && (PyData.eqv (EDat.enc (r := (yL (yU yS (yU zI zB)))) told59) (EDat.enc (r := (yL (yU yS (yU zI zB)))) due52))))) noX) noX)))) noX) noX)) noX) noX) noX
theorem ok_law {k : Nat} {cs : EK → Addr} {C_Ratio : Addr} (B : Bl mg) (D__law_draw : Def P w K mg base CX0 (k + 1) "_law_draw" ["_law_bag_here", "_law_many"] (spC (preK (cBag 4) (preBW (fun x : Int => [iz zI x]) zI m_draw)))) (D__law_due : Def P w K mg base CX0 (k + 1) "_law_due" ["_law_rows", "_law_wished", "_law_columns", "_law_ranked"] (spA (preW (erW cs) (fun x : (List (List Int)) × (List Int) × Int × Bool => [iz (yL (yL zI)) x.1, iz (yL zI) x.2.1, iz zI x.2.2.1, iz zB x.2.2.2]) (yO (yL (yU yS (yU zI zB)))) (fun x => m__law_due x.1 x.2.1 x.2.2.1 x.2.2.2)))) (D__law_asked : Def P w K mg base CX0 (k + 1) "_law_asked" ["_law_rows", "_law_wished", "_law_ranked"] (spA (preW (erW cs) (fun x : (List (List Int)) × (List Int) × Bool => [iz (yL (yL zI)) x.1, iz (yL zI) x.2.1, iz zB x.2.2]) (yO (yU zI (yU (z2 yS (yL (zRatio C_Ratio))) (yL (yU yS (yU zI zB)))))) (fun x => m__law_asked x.1 x.2.1 x.2.2)))) (D__law_int : Def P w K mg base CX0 (k + 1) "_law_int" ["_law_told"] (spA (preW (erW cs) (fun x : Int => [iz zI x]) zB (fun x => m__law_int x)))) (D__law_solved : Def P w K mg base CX0 (k + 1) "_law_solved" ["_law_told", "_law_rows", "_law_wished", "_law_columns"] (spA (preW (erW cs) (fun x : (Str × (List (Int × Int))) × (List (List Int)) × (List Int) × Int => [iz (z2 yS (yL (zRatio C_Ratio))) x.1, iz (yL (yL zI)) x.2.1, iz (yL zI) x.2.2.1, iz zI x.2.2.2]) zB (fun x => m__law_solved x.1 x.2.1 x.2.2.1 x.2.2.2)))) (D__law_barred : Def P w K mg base CX0 (k + 1) "_law_barred" ["_law_told", "_law_rows", "_law_wished", "_law_columns"] (spA (preW (erW cs) (fun x : (Str × (List (Int × Int))) × (List (List Int)) × (List Int) × Int => [iz (z2 yS (yL (zRatio C_Ratio))) x.1, iz (yL (yL zI)) x.2.1, iz (yL zI) x.2.2.1, iz zI x.2.2.2]) zB (fun x => m__law_barred x.1 x.2.1 x.2.2.1 x.2.2.2)))) (D__law_bag : Def P w K mg base CX0 (k + 1) "_law_bag" ["_law_script"] (spN (preBag K 4)))
    {f : Addr} {fd : FuncData} (F : Fun K "law" "law" s_law f fd) (hm : m_law (· = true) noX) : FnOk P w K mg base CX0 (k + 2) f fd ["_law_script"] (spLaw K) := by
  refine F.ok sc_law (fun vs H Q E h => ?_) (fun cdv A outer s H vs Q E hr h => ?_)
  · obtain ⟨a, ns, rfl, _⟩ := h
    rfl
  obtain ⟨a, ns, rfl, hS, hlen, q⟩ := h
  refine ⟨_, (pss_cons (ps_asg (pe_def D__law_bag hr pass0 (pa_cons (pv 0) pa_nil)) (pg_name (i := 1) sc_law.nd rfl (Or.inl rfl)))
 (pss_cons (ps_asg (pe_ix (kix_list (K := K)) (pe_lst (pa_cons pe_int (pa_cons pe_int (pa_cons pe_int (pa_cons pe_int (pa_cons pe_int (pa_cons pe_int (pa_cons pe_int pa_nil)))))))) (pe_def D__law_draw hr pass0 (pa_cons (pv 1) (pa_cons pe_int pa_nil))) (fun _ _ => rfl)) (pg_name (i := 2) sc_law.nd rfl (Or.inl rfl)))
 (pss_cons (ps_asg (pe_ix (kix_list (K := K)) (pe_lst (pa_cons pe_int (pa_cons pe_int (pa_cons pe_int (pa_cons pe_int (pa_cons pe_int (pa_cons pe_int (pa_cons pe_int pa_nil)))))))) (pe_def D__law_draw hr pass0 (pa_cons (pv 1) (pa_cons pe_int pa_nil))) (fun _ _ => rfl)) (pg_name (i := 3) sc_law.nd rfl (Or.inr rfl)))
 (pss_cons (ps_setLc (i := 4) (own := [("_law_k", 6)]) (g := gName 6) (by rfl) sc_law.nd rfl rfl (sw_true rfl rfl rfl (by decide +kernel)) (pi_range1 (by rfl) B.range (pa_cons (pv 2) pa_nil)) (blkOk_by (N := ["_law_script", "_law_bag_here", "_law_many", "_law_columns", "_law_rows", "_law_wished", "_law_k", "_law_number", "_law_row", "_law_at", "_law_due_here", "_law_told"]) (sc := defScope s_law) (by decide +kernel)) (fun _ _ _ _ _ => (pg_name (i := 6) sc_law.nd rfl (Or.inl rfl))) (fun _ _ _ _ _ => pts_nil) (fun _ _ _ _ _ => (pe_op op_rep (pe_lst (pa_cons pe_int pa_nil)) (pv 3))))
 (pss_cons (ps_asg (pe_op op_rep (pe_lst (pa_cons pe_int pa_nil)) (pv 2)) (pg_name (i := 5) sc_law.nd rfl (Or.inl rfl)))
 (pss_cons (ps_for PassesOwn.never rfl (pi_range1 (by rfl) B.range (pa_cons (pe_def D__law_draw hr pass0 (pa_cons (pv 1) (pa_cons pe_int pa_nil))) pa_nil)) (pg_name (i := 6) sc_law.nd rfl (Or.inl rfl)) (pss_cons (ps_asg (pe_op op_add pe_int (pe_def D__law_draw hr pass0 (pa_cons (pv 1) (pa_cons pe_int pa_nil)))) (pg_name (i := 7) sc_law.nd rfl (Or.inl rfl)))
 (C8.pss_cut (ps_if (pt_cmpR op_eq (pe_def D__law_draw hr pass0 (pa_cons (pv 1) (pa_cons pe_int pa_nil))) pe_int (nomark _)) (pss_one (ps_asg (pe_un un_neg (pv 7)) (pg_name (i := 7) sc_law.nd rfl (Or.inl rfl)))) pss_nil)
 (pss_one (ps_if (pt_cmpR op_gt (pv 2) pe_int (nomark _)) (pss_cons (ps_asg (pe_ix (kix_list (K := K)) (pv 4) (pe_def D__law_draw hr pass0 (pa_cons (pv 1) (pa_cons (pv 2) pa_nil))) (fun _ _ => rfl)) (pg_name (i := 8) sc_law.nd rfl (Or.inl rfl)))
 (pss_cons (ps_asg (pe_def D__law_draw hr pass0 (pa_cons (pv 1) (pa_cons (pe_op op_add (pv 3) pe_int) pa_nil))) (pg_name (i := 9) sc_law.nd rfl (Or.inl rfl)))
 (pss_one (ps_if (pt_cmpR op_lt (pv 9) (pv 3) (nomark _)) (pss_one (ps_asg (pv 7) (pg_sub (pv 8) (pv 9) set_list))) (pss_one (ps_asg (pv 7) (pg_sub (pv 5) (pe_def D__law_draw hr pass0 (pa_cons (pv 1) (pa_cons (pv 2) pa_nil))) set_list))))))) pss_nil)))))
 (pss_cons (ps_asg (pe_def D__law_due hr pass0 (pa_cons (pv 4) (pa_cons (pv 5) (pa_cons (pv 3) (pa_cons pe_bl pa_nil))))) (pg_name (i := 10) sc_law.nd rfl (Or.inl rfl)))
 (pss_cons (ps_asg (pe_def D__law_asked hr pass0 (pa_cons (pe_lc (own := [("_law_row", 8)]) (g := gName 8) (by rfl) sc_law.nd (kpi_list (K := K) (pv 4)) (blkOk_by (N := ["_law_script", "_law_bag_here", "_law_many", "_law_columns", "_law_rows", "_law_wished", "_law_k", "_law_number", "_law_row", "_law_at", "_law_due_here", "_law_told"]) (sc := defScope s_law) (by decide +kernel)) (fun _ _ _ _ _ => (pg_name (i := 8) sc_law.nd rfl (Or.inl rfl))) (fun _ _ _ _ _ => pts_nil) (fun _ _ _ _ _ => (pe_callTy (kcall_list (K := K)) (by rfl) B.list' (by decide +kernel) (pa_cons (pv 8) pa_nil)))) (pa_cons (pv 5) (pa_cons pe_bl pa_nil)))) (pg_name (i := 11) sc_law.nd rfl (Or.inl rfl)))
 (pss_cons (ps_if (PW.pt (pw_or (PW.pt (pw_and (pt_cmpR op_isN (pv 10) pe_non (nomark _)) (pw_and1 (pt_not (pt_val (pe_def D__law_int hr pass0 (pa_cons (pv 11) pa_nil))))))) (pw_or1 (PW.pt (pw_and (pt_cmpR op_notN (pv 10) pe_non (nomark _)) (pw_and1 (pt_cmpR (kop_neD (K := K) hr.units) (pv 11) (pv 10) (nomark _)))))))) (pss_one (ps_ret pe_bl)) pss_nil)
 (pss_cons (ps_asg (pe_def D__law_due hr pass0 (pa_cons (pv 4) (pa_cons (pv 5) (pa_cons (pv 3) (pa_cons pe_bl pa_nil))))) (pg_name (i := 10) sc_law.nd rfl (Or.inl rfl)))
 (pss_cons (ps_asg (pe_def D__law_asked hr pass0 (pa_cons (pe_lc (own := [("_law_row", 8)]) (g := gName 8) (by rfl) sc_law.nd (kpi_list (K := K) (pv 4)) (blkOk_by (N := ["_law_script", "_law_bag_here", "_law_many", "_law_columns", "_law_rows", "_law_wished", "_law_k", "_law_number", "_law_row", "_law_at", "_law_due_here", "_law_told"]) (sc := defScope s_law) (by decide +kernel)) (fun _ _ _ _ _ => (pg_name (i := 8) sc_law.nd rfl (Or.inl rfl))) (fun _ _ _ _ _ => pts_nil) (fun _ _ _ _ _ => (pe_callTy (kcall_list (K := K)) (by rfl) B.list' (by decide +kernel) (pa_cons (pv 8) pa_nil)))) (pa_cons (pe_callTy (kcall_list (K := K)) (by rfl) B.list' (by decide +kernel) (pa_cons (pv 5) pa_nil)) (pa_cons pe_bl pa_nil)))) (pg_name (i := 11) sc_law.nd rfl (Or.inl rfl)))
 (pss_cons (ps_if (pt_cmpR op_notN (pv 10) pe_non (nomark _)) (pss_one (ps_ret (pe_and (pe_callB (kcall_isi (K := K)) (by rfl) B.isinstance (by decide +kernel) (pa_cons (pv 11) (pa_cons (pe_bltn (v := .ty "list") (by rfl) B.list' (by decide +kernel) rfl) pa_nil))) (pe_one (pe_cmpR (kop_eqD (K := K) hr.units) (pv 11) (pv 10) (nomark _)))))) pss_nil)
 (pss_cons (ps_if (pt_cmpR (kop_eqD (K := K) hr.units) (pv 4) (pe_lst pa_nil) (nomark _)) (pss_one (ps_ret (pe_and (pe_callB (kcall_isi (K := K)) (by rfl) B.isinstance (by decide +kernel) (pa_cons (pv 11) (pa_cons (pe_bltn (v := .ty "tuple") (by rfl) B.tuple' (by decide +kernel) rfl) pa_nil))) (pe_one (pe_cmpR (kop_eqD (K := K) hr.units) (pv 11) (pe_tup (pa_cons pe_str (pa_cons (pe_lst pa_nil) pa_nil))) (nomark _)))))) pss_nil)
 (pss_one (ps_ret (pe_or (pe_def D__law_solved hr pass0 (pa_cons (pv 11) (pa_cons (pv 4) (pa_cons (pv 5) (pa_cons (pv 3) pa_nil))))) (pe_one (pe_def D__law_barred hr pass0 (pa_cons (pv 11) (pa_cons (pv 4) (pa_cons (pv 5) (pa_cons (pv 3) pa_nil)))))))))))))))))))))), ?_⟩
  have hret : ∀ {fr : L2.Fr} {Θ : List Cel} (c : Bool), c = true → Rt fr Θ Q (iz zB c) := fun {fr Θ} c hc v F' H' ok hv => by
    subst hc
    have hv : v = .bl true := hv
    subst hv
    exact q H'
  refine (?_ : ∀ fr, Kn fr (L2.envOf _ [iz (zScr K) ns]) [] _) ⟨H, H, []⟩ _ H H (OkF.start (Same.refl H)) (env_start (.cons ⟨a, rfl, hS, hlen⟩ .nil))
  intro fr
  refine kn_seq (kn_asg (we_callE (wa_cons (we_var rfl (wa_nil ?_)))))
  refine sps_N ⟨ns, rfl, rfl, rfl⟩ (fun p Θn ⟨b, l, e1, e2⟩ => ?_) (fun e he => he.elim)
  subst e1 e2
  try dsimp only
  have h := hm
  unfold m_law at h
  refine kn_seq (kn_asg (i := 2) (we_op (we_lstY (r := zI) (wa_cons (we_cI (wa_cons (we_cI (wa_cons (we_cI (wa_cons (we_cI (wa_cons (we_cI (wa_cons (we_cI (wa_cons (we_cI (wa_nil (⟨[(0 : Int), (1 : Int), (2 : Int), (39 : Int), (40 : Int), (41 : Int), (42 : Int)], rfl, Nat.le_of_ble_eq_true rfl, we_callE (wa_cons (we_var rfl (wa_cons (we_cI (wa_nil ?_)))))⟩)))))))))))))))))))
  refine sps_KW (mk := cBag 4) (j := 0) rfl (7 : Int) h (fun v1 h => ?_)
  obtain ⟨v2, ev2, h⟩ := h
  refine oy_ixL ev2 ?_
  try dsimp only
  refine kn_seq (kn_asg (i := 3) (we_op (we_lstY (r := zI) (wa_cons (we_cI (wa_cons (we_cI (wa_cons (we_cI (wa_cons (we_cI (wa_cons (we_cI (wa_cons (we_cI (wa_cons (we_cI (wa_nil (⟨[(0 : Int), (1 : Int), (2 : Int), (39 : Int), (40 : Int), (41 : Int), (42 : Int)], rfl, Nat.le_of_ble_eq_true rfl, we_callE (wa_cons (we_var rfl (wa_cons (we_cI (wa_nil ?_)))))⟩)))))))))))))))))))
  refine sps_KW (mk := cBag 4) (j := 0) rfl (7 : Int) h (fun v3 h => ?_)
  obtain ⟨v4, ev4, h⟩ := h
  refine oy_ixL ev4 ?_
  try dsimp only
  refine kn_seq (kn_asg (i := 4) ?_)
  obtain ⟨g6, h⟩ := h
  refine we_lcGL (r := zI) (s := zI) (wi_range (wa_cons (we_var rfl (wa_nil ?_))))
  obtain ⟨g10, h⟩ := h
  refine ⟨_, rfl, (by have hb : big = 100000 := rfl; omega), (by have hb : big = 100000 := rfl; omega), ⟨_, fun x5 => (List.replicate (v4).toNat (0 : Int)), _, rfl, rfl, (intsF_big (by have hb : big = 100000 := rfl; omega)), fun x5 => tg_name, fun x5 c => we_op (we_lstY (r := zI) (wa_cons (we_cI (wa_nil (⟨[(0 : Int)], rfl, Nat.le_of_ble_eq_true rfl, we_var rfl (oy_repO g6.1 g6.2 (fun a7 => (⟨_, rfl, rfl⟩)))⟩))))), fun a8 g9 eg9 => ?_⟩⟩
  try dsimp only
  refine kn_seq (kn_asg (i := 5) (we_op (we_lstY (r := zI) (wa_cons (we_cI (wa_nil (⟨[(0 : Int)], rfl, Nat.le_of_ble_eq_true rfl, we_var rfl ?_⟩)))))))
  obtain ⟨g11, h⟩ := h
  refine oy_repO g11.1 g11.2 (fun a12 => ?_)
  try dsimp only
  refine kn_seq (kn_forG (r := zI) (S := (List (List Int)) × (List Int)) (fun s13 => [none, some (zAt b), some (iz zI v2), some (iz zI v4), some (zAt a8), some (zAt a12), none, none, none, none, none, none]) (fun s13 Θx => ∃ g : GR Int, gW g = s13.1 ∧ True ∧ Θx = ([cY a12 zI s13.2, cY a8 zR (gA g), cBag 4 b l] ++ gC zI g)) ((((intsF 0 (v2).toNat)).map fun x5 => (List.replicate (v4).toNat (0 : Int))), (List.replicate (v2).toNat (0 : Int))) (wi_range (wa_cons (we_callE (wa_cons (we_var rfl (wa_cons (we_cI (wa_nil ?_)))))))))
  refine sps_KW (mk := cBag 4) (j := 2) rfl (4 : Int) h (fun v15 h => ?_)
  refine wa_nil ?_
  obtain ⟨g16, h⟩ := h
  refine ⟨_, rfl, (by have hb : big = 100000 := rfl; omega), (by have hb : big = 100000 := rfl; omega), ⟨_, _, _, _, _, rfl, ⟨g9, eg9, trivial, rfl⟩, (by and_intros), fun _ _ => tg_name, h, fun fr' le x14 s13 nx M hnx hbk h Θx hT => ?_, fun s13 h Θx hT => ?_⟩⟩
  · obtain ⟨g17, eg17, ng17, rfl⟩ := hT
    refine kn_seq (kn_asgL (i := 7) (r := zI) (we_op (we_cI (we_callE (wa_cons (we_var rfl (wa_cons (we_cI (wa_nil ?_)))))))))
    refine sps_KW (mk := cBag 4) (j := 2) rfl (6 : Int) h (fun v18 h => ?_)
    refine ops_I0 (⟨_, rfl, fun number19 enumber19 => ?_⟩)
    have h := h number19 enumber19
    try dsimp only
    refine kn_cutG (S := Int) (fun s20 => [none, some (zAt b), some (iz zI v2), some (iz zI v4), some (zAt a8), some (zAt a12), some (iz zI x14), some (iz zI s20), none, none, none, none]) (fun s20 Θx => ∃ g : GR Int, gW g = s13.1 ∧ True ∧ Θx = ([cY a12 zI s13.2, cY a8 zR (gA g), cBag 4 b l] ++ gC zI g)) h (fun M hjn h => ?_) (fun s20 h Θx hT => ?_)
    · refine kn_if (wt_test (we_op (we_callE (wa_cons (we_var rfl (wa_cons (we_cI (wa_nil ?_))))))))
      refine sps_KW (mk := cBag 4) (j := 2) rfl (2 : Int) h (fun v22 h => ?_)
      refine we_cI (ops_eqI (⟨_, rfl, ⟨fun hc => ?_, fun hc => ?_⟩⟩))
      · have h := h.1 hc
        refine kn_asgL (i := 7) (r := zI) (we_un (we_var rfl (uns_I (⟨_, rfl, fun number23 enumber23 => ?_⟩))))
        have h := h number23 enumber23
        exact hjn number23 _ _ h (by and_intros) ⟨g17, eg17, ng17, rfl⟩
      · have h := h.2 hc
        refine kn_next ?_
        exact hjn number19 _ _ h (by and_intros) ⟨g17, eg17, ng17, rfl⟩
    obtain ⟨g24, eg24, ng24, rfl⟩ := hT
    try dsimp only
    refine kn_if (wt_test (we_op (we_var rfl (we_cI (ops_B0 (⟨_, rfl, ⟨fun hc => ?_, fun hc => ?_⟩⟩))))))
    · have h := h.1 hc
      refine kn_seq (kn_asg (i := 8) (we_op (we_var rfl (we_callE (wa_cons (we_var rfl (wa_cons (we_var rfl (wa_nil ?_)))))))))
      refine sps_KW (mk := cBag 4) (j := 2) rfl v2 h (fun v25 h => ?_)
      obtain ⟨m28, em28, v26, ev26, h⟩ := h
      obtain ⟨kb27, b27, eb27⟩ := gW_get (show (gW g24)[m28]? = some v26 from by rw [eg24]; exact ev26)
      refine oy_ixGL (j := 1) rfl (by rw [eg24]; exact em28) eb27 ?_
      try dsimp only
      refine kn_seq (kn_asg (i := 9) (we_callE (wa_cons (we_var rfl (wa_cons (we_op (we_var rfl (we_cI (ops_I0 (wa_nil ?_))))))))))
      refine sps_KW (mk := cBag 4) (j := 2) rfl (v4 + (1 : Int)) h (fun v29 h => ?_)
      try dsimp only
      refine kn_if (wt_test (we_op (we_var rfl (we_var rfl (ops_B0 (⟨_, rfl, ⟨fun hc => ?_, fun hc => ?_⟩⟩))))))
      · have h := h.1 hc
        refine kn_setGL (i := 8) (fun c => [cY a12 zI s13.2, c, cBag 4 b l]) rfl rfl eb27 eg24 (we_var rfl (we_var rfl ?_))
        obtain ⟨m30, em30, h⟩ := h
        refine ⟨_, _, _, rfl, rfl, rfl, em30, fun g31 eg31 => ?_⟩
        exact hnx (((s13.1).set m28 ((v26).set m30 s20)), s13.2) _ _ h (by and_intros) ⟨g31, eg31, trivial, rfl⟩
      · have h := h.2 hc
        refine kn_setY (r := zI) (xs := s13.2) (i := 5) (j := 0) rfl (we_var rfl (we_callE (wa_cons (we_var rfl (wa_cons (we_var rfl (wa_nil ?_)))))))
        refine sps_KW (mk := cBag 4) (j := 2) rfl v2 h (fun v32 h => ?_)
        obtain ⟨m33, em33, h⟩ := h
        refine ⟨_, _, _, rfl, rfl, rfl, em33, ?_⟩
        exact hnx (s13.1, ((s13.2).set m33 s20)) _ _ h (by and_intros) ⟨g24, eg24, ng24, rfl⟩
    · have h := h.2 hc
      refine kn_next ?_
      exact hnx (s13.1, s13.2) _ _ h (by and_intros) ⟨g24, eg24, ng24, rfl⟩
  obtain ⟨g34, eg34, ng34, rfl⟩ := hT
  try dsimp only
  refine kn_frzGL (j := 1) (fun c => [cY a12 zI s13.2, c, cBag 4 b l]) rfl (fun _ => rfl) (fun _ _ => rfl) eg34 ?_
  refine kn_frzY (i := 4) (j := 1) rfl rfl ?_
  refine kn_frzY (i := 5) (j := 0) rfl rfl ?_
  refine kn_seq (kn_asg (i := 10) (we_callE (wa_cons (we_var rfl (wa_cons (we_var rfl (wa_cons (we_var rfl (wa_cons (we_cB (wa_nil ?_)))))))))))
  refine sps_W0 (s13.1, s13.2, v4, true) h (fun v35 h => ?_)
  try dsimp only
  refine kn_seq (kn_asg (i := 11) (we_callE (wa_cons (we_lcM0 (r := (yL zI)) (s := (yL zI)) (wi_yL (we_var rfl (⟨_, _, _, rfl, fun e37 => ⟨_, fun x36 => x36, _, rfl, rfl, e37, fun x36 => tg_name, fun x36 c => we_cb (wa_cons (we_var rfl (wa_nil (cy_list sy_L (⟨rfl, rfl⟩))))), wa_cons (we_var rfl (wa_cons (we_cB (wa_nil ?_))))⟩⟩)))))))
  refine sps_W0 (((s13.1).map fun x36 => x36), s13.2, true) h (fun v38 h => ?_)
  try dsimp only
  refine kn_seq (kn_if (wt_orC (wt_andC (wt_test (we_op (we_var rfl (we_cNy (oy_isO (⟨_, rfl, ?_⟩)))))))))
  refine andK h (fun h => ?_) (fun c39 h => ?_)
  · refine wt_not (wt_b (we_callE (wa_cons (We.conv (we_var rfl ?_)))))
    obtain ⟨zv41, ezv41, h⟩ := h
    refine ⟨_, (show Vp.Le (iz (yO (yU zI (yU (z2 yS (yL (zRatio C_Ratio))) (yL (yU yS (yU zI zB)))))) v38) (iz zI zv41) from by rw [ezv41]; exact fun F v h => h), wa_nil ?_⟩
    refine sps_W0 zv41 h (fun v42 h => ?_)
    refine ⟨_, rfl, ?_⟩
    exact ⟨rfl, h⟩
  refine orK h (fun h => ?_) (fun c43 h => ?_)
  · refine wt_andC (wt_test (we_op (we_var rfl (we_cNy (oy_notO (⟨_, rfl, ?_⟩))))))
    refine andK h (fun h => ?_) (fun c45 h => ?_)
    · refine wt_test (we_op (We.conv (we_var rfl ?_)))
      obtain ⟨zv47, ezv47, h⟩ := h
      refine ⟨_, (show Vp.Le (iz (yO (yU zI (yU (z2 yS (yL (zRatio C_Ratio))) (yL (yU yS (yU zI zB)))))) v38) (iz (yL (yU yS (yU zI zB))) zv47) from by rw [ezv47]; exact fun F v h => h), we_var rfl (oy_neEE (r := (yL (yU yS (yU zI zB)))) (s := (yO (yL (yU yS (yU zI zB))))) (by decide) (by decide) (⟨_, rfl, ?_⟩))⟩
      exact ⟨rfl, h⟩
    exact ⟨rfl, h⟩
  refine ⟨fun hc => ?_, fun hc => ?_⟩
  · have h := h.1 hc
    refine kn_ret (we_cB ?_)
    exact hret _ h
  · have h := h.2 hc
    refine kn_next ?_
    try dsimp only
    refine kn_seq (kn_asg (i := 10) (we_callE (wa_cons (we_var rfl (wa_cons (we_var rfl (wa_cons (we_var rfl (wa_cons (we_cB (wa_nil ?_)))))))))))
    refine sps_W0 (s13.1, s13.2, v4, false) h (fun v48 h => ?_)
    try dsimp only
    refine kn_seq (kn_asg (i := 11) (we_callE (wa_cons (we_lcM0 (r := (yL zI)) (s := (yL zI)) (wi_yL (we_var rfl (⟨_, _, _, rfl, fun e50 => ⟨_, fun x49 => x49, _, rfl, rfl, e50, fun x49 => tg_name, fun x49 c => we_cb (wa_cons (we_var rfl (wa_nil (cy_list sy_L (⟨rfl, rfl⟩))))), wa_cons (we_cb (wa_cons (we_var rfl (wa_nil (cy_list sy_L (wa_cons (we_cB (wa_nil ?_))))))))⟩⟩)))))))
    refine sps_W0 (((s13.1).map fun x49 => x49), s13.2, false) h (fun v51 h => ?_)
    try dsimp only
    refine kn_seq (kn_if (wt_test (we_op (we_var rfl (we_cNy (oy_notO (⟨_, rfl, optKn h (fun edue52 h => ?_) (fun due52 edue52 h => ?_)⟩)))))))
    · revert h; (first | subst edue52 | rw [edue52]); intro h
      refine kn_next ?_
      try dsimp only
      obtain ⟨told53, etold53, h⟩ := h
      revert h; (first | subst etold53 | rw [etold53]); intro h
      refine kn_seq (kn_if (wt_test (we_op (we_var rfl (we_lstY (r := (yL zI)) (wa_nil (⟨[], rfl, Nat.le_of_ble_eq_true rfl, ops_eqD (r := (yL (yL zI))) (by decide) (⟨_, rfl, ⟨fun hc => ?_, fun hc => ?_⟩⟩)⟩)))))))
      · have h := h.1 hc
        obtain ⟨etold54, h⟩ := h
        refine kn_recast (i := 11) (q := iz (z2 yS (yL zI)) (((told53).1, []) : (Str × (List Int)))) rfl (le_nil2 etold54) ?_
        refine kn_ret (we_andP (we_cb (wa_cons (we_var rfl (wa_cons (we_cT (wa_nil (cb_isi ty_2 (show kitB "tuple" "tuple" = some true by decide +kernel) (⟨_, _, rfl, fun _ => we_op (we_var rfl (we_tup (wa_cons (we_cSy (z := "SOLVED") (asc_of (by decide)) (by decide) (wa_cons (we_lstY (r := zI) (wa_nil (⟨[], rfl, Nat.le_of_ble_eq_true rfl, wa_nil (⟨Nat.le_of_ble_eq_true rfl, iz (z2 yS (yL zI)) (("SOLVED" : Str), []), tr2, ops_eqD (r := (z2 yS (yL zI))) (by decide) (⟨rfl, rfl⟩)⟩)⟩)))))))), ?_⟩)))))))))
        exact hret _ h
      · have h := h.2 hc
        refine kn_next ?_
        try dsimp only
        refine kn_ret (we_orC (we_callE (wa_cons (we_var rfl (wa_cons (we_var rfl (wa_cons (we_var rfl (wa_cons (we_var rfl (wa_nil ?_)))))))))))
        refine sps_W0 (told53, s13.1, s13.2, v4) h (fun v55 h => ?_)
        refine orKv h (fun h => ?_) (fun c56 h => ?_)
        · refine we_callE (wa_cons (we_var rfl (wa_cons (we_var rfl (wa_cons (we_var rfl (wa_cons (we_var rfl (wa_nil ?_)))))))))
          refine sps_W0 (told53, s13.1, s13.2, v4) h (fun v58 h => ?_)
          exact ⟨rfl, _, rfl, h⟩
        exact hret _ h
    · revert h; (first | subst edue52 | rw [edue52]); intro h
      obtain ⟨told59, etold59, h⟩ := h
      revert h; (first | subst etold59 | rw [etold59]); intro h
      refine kn_ret (we_andP (we_cb (wa_cons (we_var rfl (wa_cons (we_cT (wa_nil (cb_isi ty_yL (show kitB "list" "list" = some true by decide +kernel) (⟨_, _, rfl, fun _ => we_op (we_var rfl (we_var rfl (oy_eqEE (r := (yL (yU yS (yU zI zB)))) (s := (yL (yU yS (yU zI zB)))) (by decide) (by decide) (⟨rfl, rfl⟩)))), ?_⟩)))))))))
      exact hret _ h
end
section
theorem draw_ok {m : Int} {Q : Int → Prop} {X : HE → Prop} (h0 : 0 < m) (h1 : m ≤ 10 ^ 40) (h : ∀ n : Nat, (n : Int) < m → Q n) : m_draw m Q X := ⟨h0, h1, fun n n0 n1 => by
  obtain ⟨j, rfl⟩ : ∃ j : Nat, n = j := ⟨n.toNat, by omega⟩
  exact h j n1⟩
end
section
theorem joinI {S : Type} {f : (S → Prop) → Prop} {k : S → Prop} (h : f k) : joinD f k := h
end
section
theorem absI (a : Int) : (if a < 0 then -a else a) = (a.natAbs : Int) := by split <;> omega
theorem fmodN (m n : Nat) : Int.fmod (m : Int) (n : Int) = ((m % n : Nat) : Int) := by
  rw [Int.fmod_eq_emod_of_nonneg _ (Int.natCast_nonneg n)]
  exact (Int.natCast_emod m n).symm
theorem common_ok {a b : Int} {Q : Int → Prop} {X : HE → Prop} (h : Q (Int.gcd a b)) : m_common_divisor a b Q X := by
  unfold m_common_divisor
  rw [absI, absI]
  refine whileD_inv (fun s => ∃ m n : Nat, s = ((m : Int), (n : Int)) ∧ Nat.gcd m n = Int.gcd a b) (fun s => s.2.toNat) ⟨a.natAbs, b.natAbs, rfl, rfl⟩ ?_
  rintro s nx ⟨m, n, rfl, hg⟩ hnx
  by_cases hn : n = 0
  · subst hn
    refine ifD_f rfl ?_
    rw [Nat.gcd_zero_right] at hg
    show Q (m : Int)
    rw [hg]
    exact h
  · refine ifD_t (by simpa using hn) ⟨by show (n : Int) ≠ 0; omega, hnx _ ⟨n, m % n, by rw [← fmodN], ?_⟩ ?_⟩
    · rw [← hg, Nat.gcd_comm m n, Nat.gcd_rec n m, Nat.gcd_comm]
    · show (Int.fmod (m : Int) (n : Int)).toNat < ((n : Int)).toNat
      rw [fmodN]
      have := Nat.mod_lt m (Nat.pos_of_ne_zero hn)
      omega
theorem half_mod {n r : Nat} (hr : r < n) (h0 : 0 < r) : 2 * (n % r) < n := by
  have h1 := Nat.mod_lt n h0
  have h2 := Nat.div_add_mod n r
  have h3 : 1 ≤ n / r := (Nat.one_le_div_iff h0).mpr (Nat.le_of_lt hr)
  have h4 : r * 1 ≤ r * (n / r) := Nat.mul_le_mul_left r h3
  omega
theorem euclid {Q : Int → Prop} {body : Int → Int × Int → (Int × Int → Prop) → (Int × Int → Prop) → Prop} {bk : Int × Int → Prop} (hbk : ∀ s, Q s.1 → bk s)
    (hb : ∀ x s nx, (s.2 = 0 → Q s.1) → (s.2 ≠ 0 → nx (s.2, Int.fmod s.1 s.2)) → body x s nx bk) : ∀ (j : Nat) (xs : List Int) (m n : Nat), n < 2 ^ j → 2 * j ≤ xs.length → Q (Nat.gcd m n) → forD xs ((m : Int), (n : Int)) body bk
  | 0, xs, m, n, hn, hl, h => by
    have hn : n = 0 := by omega
    subst hn
    rw [Nat.gcd_zero_right] at h
    cases xs with
    | nil => exact hbk _ h
    | cons x xs => exact hb x _ _ (fun _ => h) fun e => absurd rfl e
  | j + 1, [], m, n, hn, hl, h => absurd hl (by simp)
  | j + 1, [x], m, n, hn, hl, h => absurd hl (by show ¬ 2 * (j + 1) ≤ 1; omega)
  | j + 1, x :: y :: xs, m, n, hn, hl, h => by
    by_cases h0 : n = 0
    · subst h0
      rw [Nat.gcd_zero_right] at h
      exact hb x _ _ (fun _ => h) fun e => absurd rfl e
    · refine hb x _ _ (fun e => absurd (Int.natCast_eq_zero.mp e) h0) fun _ => ?_
      show forD (y :: xs) ((n : Int), Int.fmod (m : Int) (n : Int)) body bk
      rw [fmodN]
      have hr := Nat.mod_lt m (Nat.pos_of_ne_zero h0)
      have e1 : Nat.gcd n (m % n) = Nat.gcd m n := by rw [Nat.gcd_comm m n, Nat.gcd_rec n m, Nat.gcd_comm]
      by_cases h1 : m % n = 0
      · rw [h1]
        rw [h1, Nat.gcd_zero_right] at e1
        exact hb y _ _ (fun _ => by show Q (n : Int); rw [e1]; exact h) fun e => absurd rfl e
      · refine hb y _ _ (fun e => absurd (Int.natCast_eq_zero.mp e) h1) fun _ => ?_
        show forD xs (((m % n : Nat) : Int), Int.fmod (n : Int) ((m % n : Nat) : Int)) body bk
        rw [fmodN]
        refine euclid hbk hb j xs _ _ ?_ (by simp only [List.length_cons] at hl; omega) ?_
        · have := half_mod hr (Nat.pos_of_ne_zero h1)
          rw [Nat.pow_succ] at hn
          omega
        · have e2 : Nat.gcd (m % n) (n % (m % n)) = Nat.gcd n (m % n) := by rw [Nat.gcd_comm n, Nat.gcd_rec (m % n) n, Nat.gcd_comm]
          rw [e2, e1]
          exact h
/-- no number here has more than 800 bits -/
def Sm (a : Int) : Prop := a.natAbs < 2 ^ 800
theorem intsF_len (a : Int) : ∀ n : Nat, (intsF a n).length = n := fun n => by simp [intsF]
theorem divisor_ok {a b : Int} {Q : Int → Prop} {X : HE → Prop} (hb : Sm b) (h : Q (Int.gcd a b)) : m__law_divisor a b Q X := by
  unfold m__law_divisor
  intro large e1 small e2
  subst e1 e2
  rw [absI, absI]
  refine euclid (Q := Q) (fun s hs => hs) (fun x s nx h1 h2 => ?_) 800 _ _ _ hb (by rw [intsF_len]; decide) h
  by_cases h0 : s.2 = 0
  · exact ifD_t (by simpa using h0) (h1 h0)
  · refine ifD_f (by simpa using h0) ⟨h0, fun r er => ?_⟩
    subst er
    exact h2 h0
theorem sm_log {a : Int} (h : Sm a) : a.natAbs.log2 < 9000 := by
  by_cases h0 : a.natAbs = 0
  · rw [h0]; decide
  · exact Nat.lt_of_lt_of_le ((Nat.log2_lt h0).mpr h) (by decide)
theorem sm_log8 {a : Int} (h : Sm a) : a.natAbs.log2 < 800 := by
  by_cases h0 : a.natAbs = 0
  · rw [h0]; decide
  · exact (Nat.log2_lt h0).mpr h
theorem sm_mul {a b : Int} (ha : Sm a) (hb : Sm b) : CMulW a b := by
  have := sm_log8 ha
  have := sm_log8 hb
  unfold CMulW
  omega
/-- the divisor with the bottom's sign -/
def sgd (t b : Int) : Int := if b < 0 then -(Int.gcd t b : Int) else Int.gcd t b
def ratD (t b : Int) : Int × Int := (t.fdiv (sgd t b), b.fdiv (sgd t b))
theorem sgd_ne {t b : Int} (h : b ≠ 0) : sgd t b ≠ 0 := by
  have : Int.gcd t b ≠ 0 := fun e => h (Int.gcd_eq_zero_iff.mp e).2
  unfold sgd
  split <;> omega
theorem sgd_abs (t b : Int) : (sgd t b).natAbs = Int.gcd t b := by
  unfold sgd
  split <;> omega
theorem sgd_sm {t b : Int} (h : b ≠ 0) (hb : Sm b) : Sm (sgd t b) := by
  unfold Sm
  rw [sgd_abs]
  exact Nat.lt_of_le_of_lt (Nat.le_of_dvd (by omega) (Int.gcd_dvd_natAbs_right t b)) hb
theorem sgd_dl (t b : Int) : sgd t b ∣ t := by
  unfold sgd
  split
  · exact (Int.neg_dvd).mpr (Int.gcd_dvd_left t b)
  · exact Int.gcd_dvd_left t b
theorem sgd_dr (t b : Int) : sgd t b ∣ b := by
  unfold sgd
  split
  · exact (Int.neg_dvd).mpr (Int.gcd_dvd_right t b)
  · exact Int.gcd_dvd_right t b
theorem rat_ok {t b : Int} {Q : Int × Int → Prop} {X : HE → Prop} (h0 : b ≠ 0) (hb : Sm b) (h : Q (ratD t b)) : m_Ratio___init__ t b Q X := by
  unfold m_Ratio___init__
  refine ifD_f (by simpa using h0) (common_ok ?_)
  have hd : ∀ s2, s2 = sgd t b → CDivZ t s2 ∧ CDivZ b s2 ∧ Q (Int.fdiv t s2, Int.fdiv b s2) := fun s2 e => by
    subst e
    exact ⟨⟨sgd_ne h0, sm_log (sgd_sm h0 hb)⟩, ⟨sgd_ne h0, sm_log (sgd_sm h0 hb)⟩, h⟩
  by_cases hn : b < 0
  · refine joinI (ifD_t (by simpa using hn) fun d e => hd d ?_)
    rw [e]; unfold sgd; rw [if_pos hn]
  · refine joinI (ifD_f (by simpa using hn) (hd _ ?_))
    unfold sgd; rw [if_neg hn]
/-- in lowest terms -/
def Low (p : Int × Int) : Prop := 1 ≤ p.2 ∧ Int.gcd p.1 p.2 = 1
theorem rat_eq1 {t b : Int} (h : b ≠ 0) : t = (ratD t b).1 * sgd t b := by
  show t = t.fdiv (sgd t b) * sgd t b
  rw [Int.fdiv_eq_ediv_of_dvd (sgd_dl t b)]
  exact (Int.ediv_mul_cancel (sgd_dl t b)).symm
theorem rat_eq2 {t b : Int} (h : b ≠ 0) : b = (ratD t b).2 * sgd t b := by
  show b = b.fdiv (sgd t b) * sgd t b
  rw [Int.fdiv_eq_ediv_of_dvd (sgd_dr t b)]
  exact (Int.ediv_mul_cancel (sgd_dr t b)).symm
theorem rat_low {t b : Int} (h : b ≠ 0) : Low (ratD t b) := by
  have e1 := rat_eq1 (t := t) h
  have e2 := rat_eq2 (t := t) h
  have hn := sgd_ne (t := t) h
  have hg := sgd_abs t b
  constructor
  · have hp : 0 < (ratD t b).2 := by
      unfold sgd at e2 hn
      by_cases hb : b < 0
      · rw [if_pos hb] at e2 hn
        rcases Int.lt_trichotomy (ratD t b).2 0 with hc | hc | hc
        · have := Int.mul_nonneg_of_nonpos_of_nonpos (Int.le_of_lt hc) (show -(Int.gcd t b : Int) ≤ 0 by omega)
          omega
        · rw [hc] at e2; omega
        · exact hc
      · rw [if_neg hb] at e2 hn
        rcases Int.lt_trichotomy (ratD t b).2 0 with hc | hc | hc
        · have := Int.mul_nonpos_of_nonpos_of_nonneg (Int.le_of_lt hc) (show 0 ≤ (Int.gcd t b : Int) by omega)
          omega
        · rw [hc] at e2; omega
        · exact hc
    omega
  · have e3 : Int.gcd t b = Int.gcd (ratD t b).1 (ratD t b).2 * (sgd t b).natAbs := by
      have z := Int.gcd_mul_right (ratD t b).1 (sgd t b) (ratD t b).2
      rw [← e1, ← e2] at z
      exact z
    rw [hg] at e3
    have h0 : 0 < Int.gcd t b := by omega
    exact Nat.eq_of_mul_eq_mul_right h0 (by omega)
theorem rat_val {t b : Int} (h : b ≠ 0) : (ratD t b).1 * b = t * (ratD t b).2 := by
  have e1 := rat_eq1 (t := t) h
  have e2 := rat_eq2 (t := t) h
  calc (ratD t b).1 * b = (ratD t b).1 * ((ratD t b).2 * sgd t b) := by rw [← e2]
    _ = ((ratD t b).1 * sgd t b) * (ratD t b).2 := by rw [Int.mul_comm (ratD t b).2, Int.mul_assoc]
    _ = t * (ratD t b).2 := by rw [← e1]
end
section
theorem abs_le_mul {a d : Int} (h : d ≠ 0) : a.natAbs ≤ (a * d).natAbs := by
  rw [Int.natAbs_mul]
  exact Nat.le_mul_of_pos_right _ (by omega)
theorem rat_sn1 {t b : Int} {n : Nat} (h : b ≠ 0) (ht : t.natAbs ≤ n) : (ratD t b).1.natAbs ≤ n := by
  have e := rat_eq1 (t := t) h
  have := abs_le_mul (a := (ratD t b).1) (sgd_ne (t := t) h)
  rw [← e] at this
  omega
theorem rat_sn2 {t b : Int} {n : Nat} (h : b ≠ 0) (ht : b.natAbs ≤ n) : (ratD t b).2.natAbs ≤ n := by
  have e := rat_eq2 (t := t) h
  have := abs_le_mul (a := (ratD t b).2) (sgd_ne (t := t) h)
  rw [← e] at this
  omega
theorem rat_one (t : Int) : ratD t 1 = (t, 1) := by
  have e : sgd t 1 = 1 := by
    unfold sgd
    rw [if_neg (by decide), Int.gcd_one_right]
    rfl
  unfold ratD
  rw [e, Int.fdiv_one, Int.fdiv_one]
end
section
theorem mul_cancel {a b d : Int} (h : d ≠ 0) (e : a * d = b * d) : a = b := Int.eq_of_mul_eq_mul_right h e
/-- bounds by powers of two -/
def Bd (n : Nat) (a : Int) : Prop := a.natAbs < 2 ^ n
theorem Bd.sm {n : Nat} {a : Int} (h : Bd n a) (hn : n ≤ 800) : Sm a := Nat.lt_of_lt_of_le h (Nat.pow_le_pow_right (by decide) hn)
theorem Bd.mul {m n : Nat} {a b : Int} (ha : Bd m a) (hb : Bd n b) : Bd (m + n) (a * b) := by
  unfold Bd
  rw [Int.natAbs_mul, Nat.pow_add]
  exact Nat.mul_lt_mul'' ha hb
theorem Bd.add {n : Nat} {a b : Int} (ha : Bd n a) (hb : Bd n b) : Bd (n + 1) (a + b) := by
  unfold Bd at *
  rw [Nat.pow_succ]
  have := Int.natAbs_add_le a b
  omega
theorem Bd.neg {n : Nat} {a : Int} (ha : Bd n a) : Bd n (-a) := by
  unfold Bd at *
  rw [Int.natAbs_neg]
  exact ha
theorem Bd.sub {n : Nat} {a b : Int} (ha : Bd n a) (hb : Bd n b) : Bd (n + 1) (a - b) := by
  rw [Int.sub_eq_add_neg]
  exact ha.add hb.neg
theorem Bd.up {m n : Nat} {a : Int} (h : Bd m a) (hn : m ≤ n) : Bd n a := Nat.lt_of_lt_of_le h (Nat.pow_le_pow_right (by decide) hn)
theorem Bd.mw {m n : Nat} {a b : Int} (ha : Bd m a) (hb : Bd n b) (hm : m ≤ 800) (hn : n ≤ 800) : CMulW a b := sm_mul (ha.sm hm) (hb.sm hn)
theorem rat_b1 {t b : Int} {n : Nat} (h : b ≠ 0) (ht : Bd n t) : Bd n (ratD t b).1 := Nat.lt_of_le_of_lt (rat_sn1 h (Nat.le_refl _)) ht
theorem rat_b2 {t b : Int} {n : Nat} (h : b ≠ 0) (hb : Bd n b) : Bd n (ratD t b).2 := Nat.lt_of_le_of_lt (rat_sn2 h (Nat.le_refl _)) hb
end
section
def dotL : List Int → (Nat → Int) → Int
  | [], _ => 0
  | a :: r, y => a * y 0 + dotL r fun c => y (c + 1)
theorem dot_lin {g u d : Int} : ∀ {r' r l : List Int}, r.length = r'.length → l.length = r'.length → (∀ c, g * r'.getD c 0 = u * r.getD c 0 - d * l.getD c 0) → ∀ y : Nat → Int, g * dotL r' y = u * dotL r y - d * dotL l y
  | [], [], [], _, _, _, y => by simp [dotL]
  | a :: r', b :: r, e :: l, h1, h2, h, y => by
    have h0 := h 0
    have ih := dot_lin (r' := r') (r := r) (l := l) (by simpa using h1) (by simpa using h2) (fun c => h (c + 1)) fun c => y (c + 1)
    have h0 : g * a = u * b - d * e := h0
    show g * (a * y 0 + dotL r' _) = u * (b * y 0 + dotL r _) - d * (e * y 0 + dotL l _)
    rw [Int.mul_add, ih, ← Int.mul_assoc, h0, Int.sub_mul, Int.mul_add, Int.mul_add, Int.mul_assoc, Int.mul_assoc]
    omega
  | [], _ :: _, _, h, _, _, _ => by cases h
  | [], [], _ :: _, _, h, _, _ => by cases h
  | _ :: _, [], _, h, _, _, _ => by cases h
  | _ :: _, _ :: _, [], _, h, _, _ => by cases h
theorem dot_zero : ∀ {r : List Int} {y : Nat → Int}, (∀ c, r.getD c 0 * y c = 0) → dotL r y = 0
  | [], _, _ => rfl
  | a :: r, y, h => by
    show a * y 0 + dotL r _ = 0
    rw [show a * y 0 = 0 from h 0, dot_zero (r := r) (y := fun c => y (c + 1)) fun c => h (c + 1)]
    rfl
theorem dot_app {s : List Int} : ∀ {r : List Int} {y : Nat → Int}, dotL (r ++ s) y = dotL r y + dotL s fun c => y (r.length + c)
  | [], y => by
    show dotL s y = 0 + dotL s fun c => y (0 + c)
    rw [Int.zero_add]
    congr 1
    funext c
    rw [Nat.zero_add]
  | a :: r, y => by
    show a * y 0 + dotL (r ++ s) _ = a * y 0 + dotL r _ + dotL s _
    rw [dot_app (r := r), Int.add_assoc]
    congr 3
    funext c
    show y (r.length + c + 1) = y (r.length + 1 + c)
    congr 1
    omega
theorem dot_congr : ∀ {r : List Int} {y z : Nat → Int}, (∀ c, c < r.length → y c = z c) → dotL r y = dotL r z
  | [], _, _, _ => rfl
  | a :: r, y, z, h => by
    show a * y 0 + dotL r _ = a * z 0 + dotL r _
    rw [h 0 (Nat.succ_pos _), dot_congr (r := r) (y := fun c => y (c + 1)) (z := fun c => z (c + 1)) fun c hc => h (c + 1) (Nat.succ_lt_succ hc)]
/-- the greatest divisor of a row taken out -/
theorem getD_map0 {f : Int → Int} (h0 : f 0 = 0) : ∀ {l : List Int} {c : Nat}, (l.map f).getD c 0 = f (l.getD c 0)
  | [], c => by simp [h0]
  | a :: l, 0 => rfl
  | a :: l, c + 1 => getD_map0 h0 (l := l) (c := c)
theorem getD_zip0 {f : Int × Int → Int} (h0 : f (0, 0) = 0) : ∀ {l m : List Int} {c : Nat}, l.length = m.length → ((l.zip m).map f).getD c 0 = f (l.getD c 0, m.getD c 0)
  | [], [], c, _ => by simp [h0]
  | a :: l, b :: m, 0, _ => rfl
  | a :: l, b :: m, c + 1, h => getD_zip0 h0 (l := l) (m := m) (c := c) (by simpa using h)
  | [], _ :: _, _, h => by cases h
  | _ :: _, [], _, h => by cases h
def BdR (N : Nat) (r : List Int) : Prop := ∀ n ∈ r, Bd N n
theorem BdR.at {N : Nat} {r : List Int} (h : BdR N r) (c : Nat) : Bd N (r.getD c 0) := by
  rw [List.getD_eq_getElem?_getD]
  cases e : r[c]? with
  | none => exact Nat.two_pow_pos N
  | some n => exact h n (List.mem_of_getElem? e)
theorem lowered_ok {row : List Int} {N : Nat} (hN : N ≤ 800) (hb : BdR N row) {Q : List Int → Prop} {X : HE → Prop}
    (h : ∀ row' g, 0 < g → row'.length = row.length → (∀ c, row.getD c 0 = g * row'.getD c 0) → BdR N row' → Q row') : m_lowered row Q X := by
  unfold m_lowered
  have same : Q row := h row 1 (by omega) rfl (fun c => (Int.one_mul _).symm) hb
  refine forD_inv (fun pre s => 0 ≤ s ∧ (∀ n ∈ pre, s ∣ n) ∧ (s ≠ 0 → ∃ n ∈ pre, n ≠ 0)) ⟨Int.le_refl 0, (fun n hn => by cases hn), fun q => absurd rfl q⟩ (fun pre x post s nx ex hi hnx => ?_) fun s hi => ?_
  · obtain ⟨i1, i2, i3⟩ := hi
    refine common_ok ⟨fun _ => same, fun _ => hnx _ ⟨Int.natCast_nonneg _, fun n hn => ?_, fun q => ?_⟩⟩
    · rcases List.mem_append.mp hn with hn | hn
      · exact Int.dvd_trans (Int.gcd_dvd_left s x) (i2 n hn)
      · rw [List.mem_singleton.mp hn]
        exact Int.gcd_dvd_right s x
    · by_cases hs : s = 0
      · refine ⟨x, by simp, fun hx => q ?_⟩
        rw [hs, hx]
        rfl
      · obtain ⟨n, hn, h0⟩ := i3 hs
        exact ⟨n, List.mem_append_left _ hn, h0⟩
  · obtain ⟨i1, i2, i3⟩ := hi
    by_cases hs : s = 0
    · exact ifD_t (decide_eq_true hs) same
    refine ifD_f (decide_eq_false hs) ?_
    obtain ⟨n, hn, h0⟩ := i3 hs
    have sb : Bd N s := Nat.lt_of_le_of_lt (Nat.le_of_dvd (by omega) (Int.natAbs_dvd_natAbs.mpr (i2 n hn))) (hb n hn)
    have ex : ∀ n ∈ row, n = s * n.fdiv s := fun n hn => by
      rw [Int.fdiv_eq_ediv_of_dvd (i2 n hn), Int.mul_comm]
      exact (Int.ediv_mul_cancel (i2 n hn)).symm
    refine mapD_ok (fun n => Int.fdiv n s) (fun x hx k hk => ⟨⟨hs, sm_log (sb.sm hN)⟩, hk⟩) ?_
    rw [List.nil_append]
    have z0 : Int.fdiv 0 s = 0 := Int.zero_fdiv s
    refine h _ s (by omega) (List.length_map ..) (fun c => ?_) fun m hm => ?_
    · rw [getD_map0 z0, List.getD_eq_getElem?_getD]
      cases e : row[c]? with
      | none => show (0 : Int) = s * Int.fdiv 0 s; rw [z0, Int.mul_zero]
      | some n => exact ex n (List.mem_of_getElem? e)
    · obtain ⟨n, hn, rfl⟩ := List.mem_map.mp hm
      have := abs_le_mul (a := n.fdiv s) hs
      rw [Int.mul_comm, ← ex n hn] at this
      exact Nat.lt_of_le_of_lt this (hb n hn)
theorem atR {r : List Int} {c : Nat} (h : c < r.length) : atI r (c : Int) = some (r.getD c 0) := atI_nat (by rw [List.getD_eq_getElem?_getD, List.getElem?_eq_getElem h]; rfl)
theorem combined_ok {row lead : List Int} {W col N : Nat} (h1 : row.length = W) (h2 : lead.length = W) (hc : col < W) (b1 : BdR N row) (b2 : BdR N lead) (hN : 2 * N + 1 ≤ 800) {Q : List Int → Prop} {X : HE → Prop}
    (h : ∀ row' g, 0 < g → row'.length = W → (∀ c, g * row'.getD c 0 = lead.getD col 0 * row.getD c 0 - row.getD col 0 * lead.getD c 0) → BdR (2 * N + 1) row' → Q row') : m_combined row lead (col : Int) Q X := by
  unfold m_combined
  refine ⟨_, atR (by omega), _, atR (by omega), ?_⟩
  have u := b2.at col
  have v := b1.at col
  refine mapD_ok (fun x : Int × Int => x.1 * lead.getD col 0 - x.2 * row.getD col 0) (fun x hx k hk => ?_) ?_
  · have hm := List.of_mem_zip hx
    exact ⟨(b1 _ hm.1).mw u (by omega) (by omega), (b2 _ hm.2).mw v (by omega) (by omega), hk⟩
  rw [List.nil_append]
  have bz : BdR (2 * N + 1) ((row.zip lead).map fun x : Int × Int => x.1 * lead.getD col 0 - x.2 * row.getD col 0) := fun m hm => by
    obtain ⟨x, hx, rfl⟩ := List.mem_map.mp hm
    have hm := List.of_mem_zip hx
    have p1 := ((b1 _ hm.1).mul u).up (n := 2 * N) (by omega)
    have p2 := ((b2 _ hm.2).mul v).up (n := 2 * N) (by omega)
    exact p1.sub p2
  refine lowered_ok hN bz fun row' g hg hl he hb' => h row' g hg (hl.trans ?_) (fun c => ?_) hb'
  · rw [List.length_map, List.length_zip]
    omega
  · rw [← he c, getD_zip0 (by simp) (by omega), Int.mul_comm (row.getD c 0), Int.mul_comm (lead.getD c 0)]
end
section
/-- the first row of a minor, laid out -/
def iot (a : Nat → Int) : List Nat → (List Nat → Int) → Int
  | [], _ => 0
  | j :: J, F => a j * F J - iot a J fun K => F (j :: K)
/-- the minor of rows at columns -/
def Dt : List (Nat → Int) → List Nat → Int
  | [], _ => 1
  | r :: R, J => iot r J (Dt R)
theorem iot_c {a : Nat → Int} {j : Nat} {J : List Nat} {F : List Nat → Int} : iot a (j :: J) F = a j * F J - iot a J fun K => F (j :: K) := rfl
theorem iot_row {a b : Nat → Int} : ∀ {J : List Nat} {F : List Nat → Int}, (∀ c ∈ J, a c = b c) → iot a J F = iot b J F
  | [], _, _ => rfl
  | j :: J, F, h => by
    rw [iot_c, iot_c, h j (List.mem_cons_self ..), iot_row fun c hc => h c (List.mem_cons_of_mem _ hc)]
theorem iot_linF {a : Nat → Int} {x y : Int} : ∀ {J : List Nat} {F G : List Nat → Int}, iot a J (fun K => x * F K + y * G K) = x * iot a J F + y * iot a J G
  | [], _, _ => by simp [iot]
  | j :: J, F, G => by
    have ih := iot_linF (a := a) (x := x) (y := y) (J := J) (F := fun K => F (j :: K)) (G := fun K => G (j :: K))
    rw [iot_c, iot_c, iot_c, ih]
    grind
theorem iot_lin {a b : Nat → Int} {x y : Int} : ∀ {J : List Nat} {F : List Nat → Int}, iot (fun c => x * a c + y * b c) J F = x * iot a J F + y * iot b J F
  | [], _ => by simp [iot]
  | j :: J, F => by
    have ih := iot_lin (a := a) (b := b) (x := x) (y := y) (J := J) (F := fun K => F (j :: K))
    rw [iot_c, iot_c, iot_c, ih]
    grind
theorem iot_zero {a : Nat → Int} : ∀ {J : List Nat} {F : List Nat → Int}, (∀ c ∈ J, a c = 0) → iot a J F = 0
  | [], _, _ => rfl
  | j :: J, F, h => by
    rw [iot_c, h j (List.mem_cons_self ..), iot_zero fun c hc => h c (List.mem_cons_of_mem _ hc)]
    simp
theorem iot_mul {a : Nat → Int} {x : Int} {J : List Nat} {F : List Nat → Int} : iot a J (fun K => x * F K) = x * iot a J F := by
  have := iot_linF (a := a) (x := x) (y := 0) (J := J) (F := F) (G := F)
  rw [Int.zero_mul, Int.add_zero] at this
  rw [← this]
  congr 1
  funext K
  rw [Int.zero_mul, Int.add_zero]
theorem iot_scale {a : Nat → Int} {x : Int} {J : List Nat} {F : List Nat → Int} : iot (fun c => x * a c) J F = x * iot a J F := by
  have := iot_lin (a := a) (b := a) (x := x) (y := 0) (J := J) (F := F)
  rw [Int.zero_mul, Int.add_zero] at this
  rw [← this]
  congr 1
  funext K
  rw [Int.zero_mul, Int.add_zero]
/-- two first rows exchanged -/
theorem iot_anti {a b : Nat → Int} : ∀ {J : List Nat} {F : List Nat → Int}, iot a J (fun K => iot b K F) = -iot b J fun K => iot a K F
  | [], _ => rfl
  | j :: J, F => by
    rw [iot_c, iot_c]
    have ih := iot_anti (a := a) (b := b) (J := J) (F := fun K => F (j :: K))
    have h1 : iot a J (fun K => iot b (j :: K) F) = b j * iot a J F + (-1) * iot a J fun K => iot b K fun L => F (j :: L) := by
      rw [← iot_linF]
      congr 1
      funext K
      rw [iot_c]
      omega
    have h2 : iot b J (fun K => iot a (j :: K) F) = a j * iot b J F + (-1) * iot b J fun K => iot a K fun L => F (j :: L) := by
      rw [← iot_linF]
      congr 1
      funext K
      rw [iot_c]
      omega
    rw [h1, h2, ih]
    omega
theorem Dt_swap {a b : Nat → Int} {R : List (Nat → Int)} {J : List Nat} : Dt (a :: b :: R) J = -Dt (b :: a :: R) J := iot_anti
theorem Dt_same {a : Nat → Int} {R : List (Nat → Int)} {J : List Nat} : Dt (a :: a :: R) J = 0 := by
  have : Dt (a :: a :: R) J = -Dt (a :: a :: R) J := Dt_swap
  omega
theorem Dt_perm {R R' : List (Nat → Int)} (h : R.Perm R') : ∃ e : Int, (e = 1 ∨ e = -1) ∧ ∀ J, Dt R J = e * Dt R' J := by
  induction h with
  | nil => exact ⟨1, Or.inl rfl, fun J => (Int.one_mul _).symm⟩
  | cons r _ ih =>
    obtain ⟨e, he, h⟩ := ih
    refine ⟨e, he, fun J => ?_⟩
    show iot r J _ = e * iot r J _
    rw [← iot_mul]
    congr 1
    funext K
    exact h K
  | swap a b l => exact ⟨-1, Or.inr rfl, fun J => by rw [Dt_swap]; omega⟩
  | trans _ _ ih1 ih2 =>
    obtain ⟨e1, he1, h1⟩ := ih1
    obtain ⟨e2, he2, h2⟩ := ih2
    refine ⟨e1 * e2, ?_, fun J => by rw [h1, h2, Int.mul_assoc]⟩
    rcases he1 with rfl | rfl <;> rcases he2 with rfl | rfl <;> decide
theorem Dt_perm0 {R R' : List (Nat → Int)} (h : R.Perm R') {J : List Nat} (z : Dt R' J = 0) : Dt R J = 0 := by
  obtain ⟨e, _, q⟩ := Dt_perm h
  rw [q, z, Int.mul_zero]
/-- all minors of these rows at these columns are 0 -/
def Van (V : (Nat → Int) → Prop) (J : List Nat) : Prop := ∀ R : List (Nat → Int), R.length = J.length → (∀ r ∈ R, V r) → Dt R J = 0
/-- a multiple of it is a sum of multiples of these -/
def Spn (V : (Nat → Int) → Prop) (C : Nat) (r : Nat → Int) : Prop := ∃ (g : Int) (cs : List (Int × (Nat → Int))), g ≠ 0 ∧ (∀ p ∈ cs, V p.2) ∧ ∀ c, c < C → g * r c = (cs.map fun p => p.1 * p.2 c).sum
theorem iot_sum {J : List Nat} {F : List Nat → Int} : ∀ {cs : List (Int × (Nat → Int))}, (∀ p ∈ cs, iot p.2 J F = 0) → iot (fun c => (cs.map fun p => p.1 * p.2 c).sum) J F = 0
  | [], _ => iot_zero fun _ _ => rfl
  | p :: cs, h => by
    have ih := iot_sum (J := J) (F := F) (cs := cs) fun q hq => h q (List.mem_cons_of_mem _ hq)
    have e : (fun c => (((p :: cs).map fun p => p.1 * p.2 c).sum)) = fun c => p.1 * p.2 c + 1 * (cs.map fun p => p.1 * p.2 c).sum := funext fun c => by
      rw [List.map_cons, List.sum_cons]
      omega
    rw [e, iot_lin (b := fun c => (cs.map fun p => p.1 * p.2 c).sum), ih, h p (List.mem_cons_self ..)]
    simp
theorem Van.span {V V' : (Nat → Int) → Prop} {C : Nat} {J : List Nat} (hJ : ∀ c ∈ J, c < C) (h : Van V J) (hs : ∀ r, V' r → Spn V C r) : Van V' J := by
  have key : ∀ (R1 R2 : List (Nat → Int)), (R1 ++ R2).length = J.length → (∀ r ∈ R1, V' r) → (∀ r ∈ R2, V r) → Dt (R1 ++ R2) J = 0 := by
    intro R1
    induction R1 with
    | nil => exact fun R2 hl _ h2 => h R2 hl h2
    | cons r R1 ih =>
      intro R2 hl h1 h2
      obtain ⟨g, cs, g0, hc, e⟩ := hs r (h1 r (List.mem_cons_self ..))
      have z : iot (fun c => (cs.map fun p => p.1 * p.2 c).sum) J (Dt (R1 ++ R2)) = 0 := iot_sum fun p hp => by
        refine Dt_perm0 (R := p.2 :: (R1 ++ R2)) (R' := R1 ++ p.2 :: R2) List.perm_middle.symm (ih _ ?_ (fun q hq => h1 q (List.mem_cons_of_mem _ hq)) fun q hq => ?_)
        · rw [List.cons_append, List.length_cons, List.length_append] at hl
          rw [List.length_append, List.length_cons]
          omega
        · rcases List.mem_cons.mp hq with q2 | q2
          · rw [q2]; exact hc p hp
          · exact h2 q q2
      rw [← iot_row (a := fun c => g * r c) fun c hcJ => e c (hJ c hcJ), iot_scale] at z
      exact (Int.mul_eq_zero.mp z).resolve_left g0
  exact fun R hl hR => by
    have := key R [] (by rw [List.append_nil]; exact hl) hR (fun _ q => by cases q)
    rwa [List.append_nil] at this
theorem Van.sub {V V' : (Nat → Int) → Prop} {J : List Nat} (h : Van V J) (hs : ∀ r, V' r → V r) : Van V' J := fun R hl hR => h R hl fun r hr => hs r (hR r hr)
theorem not_nodup : ∀ {I : List Nat}, ¬ I.Nodup → ∃ i l, I.Perm (i :: i :: l)
  | [], h => (h List.nodup_nil).elim
  | a :: I, h => by
    by_cases m : a ∈ I
    · exact ⟨a, I.erase a, List.Perm.cons a (List.perm_cons_erase m)⟩
    · obtain ⟨i, l, p⟩ := not_nodup (I := I) fun q => h (List.nodup_cons.mpr ⟨m, q⟩)
      refine ⟨i, a :: l, (List.Perm.cons a p).trans ?_⟩
      exact (List.Perm.swap i a (i :: l)).trans (List.Perm.cons i (List.Perm.swap i a l))
theorem Dt_dup {M : Nat → Nat → Int} {I J : List Nat} (h : ¬ I.Nodup) : Dt (I.map M) J = 0 := by
  obtain ⟨i, l, p⟩ := not_nodup h
  exact Dt_perm0 (p.map M) Dt_same
/-- one row that is 0 at the columns -/
theorem Dt_null {R : List (Nat → Int)} {J : List Nat} {r : Nat → Int} (hr : r ∈ R) (h : ∀ c ∈ J, r c = 0) : Dt R J = 0 := by
  obtain ⟨s, t, rfl⟩ := List.append_of_mem hr
  exact Dt_perm0 (R' := r :: (s ++ t)) List.perm_middle (iot_zero h)
/-- the minor of a table with the columns of its places alone -/
theorem Dt_diag : ∀ {R : List (Nat → Int)} {J : List Nat}, R.length = J.length → (∀ i, i < R.length → ∀ k, k < J.length → i ≠ k → (R.getD i fun _ => 0) (J.getD k 0) = 0) → (∀ i, i < R.length → (R.getD i fun _ => 0) (J.getD i 0) ≠ 0) → Dt R J ≠ 0
  | [], [], _, _, _ => by decide
  | r :: R, j :: J, hl, h0, h1 => by
    have ih := Dt_diag (R := R) (J := J) (by simpa using hl) (fun i hi k hk ne => h0 (i + 1) (by simpa using hi) (k + 1) (by simpa using hk) (by omega)) fun i hi => h1 (i + 1) (by simpa using hi)
    show iot r (j :: J) (Dt R) ≠ 0
    rw [iot_c, iot_zero fun c hc => ?_]
    · have n0 : r j ≠ 0 := h1 0 (Nat.succ_pos _)
      rw [Int.sub_zero]
      exact fun e => (Int.mul_eq_zero.mp e).elim n0 ih
    · obtain ⟨k, hk, e⟩ := List.mem_iff_getElem.mp hc
      have := h0 0 (Nat.succ_pos _) (k + 1) (by simpa using hk) (by omega)
      rw [← e]
      simpa [List.getD_eq_getElem?_getD, List.getElem?_eq_getElem hk] using this
end
section
def Row (T : List (List Int)) (j : Nat) : List Int := T.getD j []
theorem row_set {T : List (List Int)} {v : List Int} {m j : Nat} (hm : m < T.length) : Row (T.set m v) j = if j = m then v else Row T j := by
  unfold Row
  rw [List.getD_eq_getElem?_getD, List.getD_eq_getElem?_getD, List.getElem?_set]
  by_cases e : j = m
  · subst e
    rw [if_pos rfl, if_pos rfl, if_pos hm]
    rfl
  · rw [if_neg (fun q => e q.symm), if_neg e]
theorem atRow {T : List (List Int)} {j : Nat} (h : j < T.length) : atI T (j : Int) = some (Row T j) := atI_nat (by unfold Row; rw [List.getD_eq_getElem?_getD, List.getElem?_eq_getElem h]; rfl)
def Ker (T : List (List Int)) (y : Nat → Int) : Prop := ∀ j, j < T.length → dotL (Row T j) y = 0
/-- a row as what it says of the columns -/
def rv (r : List Int) : Nat → Int := fun c => r.getD c 0
/-- the rows of a table -/
def InT (T : List (List Int)) (v : Nat → Int) : Prop := ∃ j, j < T.length ∧ v = rv (Row T j)
structure LI (T0 : List (List Int)) (W N x : Nat) (T : List (List Int)) (leads : List Nat) : Prop where
  len : T.length = T0.length
  wid : ∀ j, j < T.length → (Row T j).length = W
  bd : ∀ j, j < T.length → BdR N (Row T j)
  ker : ∀ y, Ker T y ↔ Ker T0 y
  ll : leads.length ≤ T.length
  lx : ∀ c ∈ leads, c < x
  nd : leads.Nodup
  piv : ∀ i, i < leads.length → (Row T i).getD (leads.getD i 0) 0 ≠ 0
  clr : ∀ i, i < leads.length → ∀ j, j < T.length → j ≠ i → (Row T j).getD (leads.getD i 0) 0 = 0
  low : ∀ j, leads.length ≤ j → j < T.length → ∀ c, c < x → (Row T j).getD c 0 = 0
  van : ∀ J : List Nat, (∀ c ∈ J, c < W) → (Van (InT T) J ↔ Van (InT T0) J)
  asc : leads.Pairwise (· < ·)
theorem BdR.up {m n : Nat} {r : List Int} (h : BdR m r) (e : m ≤ n) : BdR n r := fun x hx => (h x hx).up e
theorem LI.skip {T0 T : List (List Int)} {W N N' x : Nat} {leads : List Nat} (L : LI T0 W N x T leads) (hN : N ≤ N') (z : ∀ j, leads.length ≤ j → j < T.length → (Row T j).getD x 0 = 0) : LI T0 W N' (x + 1) T leads :=
  ⟨L.len, L.wid, fun j hj => (L.bd j hj).up hN, L.ker, L.ll, fun c hc => Nat.lt_succ_of_lt (L.lx c hc), L.nd, L.piv, L.clr, fun j h1 h2 c hc => by
    by_cases e : c = x
    · rw [e]; exact z j h1 h2
    · exact L.low j h1 h2 c (by omega), L.van, L.asc⟩
structure Done (W N x : Nat) (lead r1 r : List Int) : Prop where
  wid : r.length = W
  bd : BdR N r
  z : r.getD x 0 = 0
  co : ∃ g u d : Int, g ≠ 0 ∧ u ≠ 0 ∧ ∀ c, g * r.getD c 0 = u * r1.getD c 0 - d * lead.getD c 0
theorem mul_zero_l {g a : Int} (h : g ≠ 0) (e : g * a = 0) : a = 0 := (Int.mul_eq_zero.mp e).resolve_left h
theorem Done.zero {W N x c : Nat} {lead r1 r : List Int} (D : Done W N x lead r1 r) (h1 : r1.getD c 0 = 0) (h2 : lead.getD c 0 = 0) : r.getD c 0 = 0 := by
  obtain ⟨g, u, d, hg, hu, h⟩ := D.co
  have := h c
  rw [h1, h2, Int.mul_zero, Int.mul_zero, Int.sub_self] at this
  exact mul_zero_l hg this
theorem Done.ne {W N x c : Nat} {lead r1 r : List Int} (D : Done W N x lead r1 r) (h1 : r1.getD c 0 ≠ 0) (h2 : lead.getD c 0 = 0) : r.getD c 0 ≠ 0 := fun e => by
  obtain ⟨g, u, d, hg, hu, h⟩ := D.co
  have := h c
  rw [e, h2, Int.mul_zero, Int.mul_zero, Int.sub_zero] at this
  exact h1 (mul_zero_l hu this.symm)
theorem spn_one {V : (Nat → Int) → Prop} {C : Nat} {v : Nat → Int} (h : V v) : Spn V C v := ⟨1, [(1, v)], by decide, (fun p hp => by rw [List.mem_singleton.mp hp]; exact h), fun c _ => by simp⟩
theorem spn_two {V : (Nat → Int) → Prop} {C : Nat} {v a b : Nat → Int} {g x y : Int} (g0 : g ≠ 0) (ha : V a) (hb : V b) (e : ∀ c, g * v c = x * a c + y * b c) : Spn V C v := ⟨g, [(x, a), (y, b)], g0, (fun p hp => by
    rcases List.mem_cons.mp hp with q | q
    · rw [q]; exact ha
    · rw [List.mem_singleton.mp q]; exact hb), fun c _ => by rw [e c]; simp⟩
theorem LI.pivot {T0 T T2 : List (List Int)} {W N N' x f : Nat} {leads : List Nat} (L : LI T0 W N x T leads) (hN : N ≤ N') (kf : leads.length ≤ f) (fn : f < T.length) (nz : (Row T f).getD x 0 ≠ 0) (len : T2.length = T.length) (at_ : Row T2 leads.length = Row T f)
    (dn : ∀ j, j < T.length → j ≠ leads.length → Done W N' x (Row T f) (if j = f then Row T leads.length else Row T j) (Row T2 j)) : LI T0 W N' (x + 1) T2 (leads ++ [x]) := by
  have kn : leads.length < T.length := by omega
  have gl : ∀ i, i < leads.length → (leads ++ [x]).getD i 0 = leads.getD i 0 := fun i hi => by
    rw [List.getD_eq_getElem?_getD, List.getElem?_append_left hi, List.getD_eq_getElem?_getD]
  have gk : (leads ++ [x]).getD leads.length 0 = x := by
    rw [List.getD_eq_getElem?_getD, List.getElem?_append_right (Nat.le_refl _), Nat.sub_self]
    rfl
  have ll : (leads ++ [x]).length = leads.length + 1 := by rw [List.length_append]; rfl
  have wr : ∀ j, j < T.length → j ≠ leads.length → (if j = f then Row T leads.length else Row T j).length = W := fun j hj hk => by
    split
    · exact L.wid _ kn
    · exact L.wid _ hj
  refine ⟨len.trans L.len, fun j hj => ?_, fun j hj => ?_, fun y => (Iff.trans ?_ (L.ker y)), by rw [ll, len]; omega, fun c hc => ?_, nodup_snoc L.nd fun q => absurd (L.lx x q) (by omega), fun i hi => ?_, fun i hi j hj ne => ?_, fun j h1 h2 c hc => ?_, fun J hJ => Iff.trans ⟨fun h => ?_, fun h => ?_⟩ (L.van J hJ), List.pairwise_append.mpr ⟨L.asc, List.pairwise_singleton .., fun a ha b hb => by rw [List.mem_singleton.mp hb]; exact L.lx a ha⟩⟩
  · rw [len] at hj
    by_cases e : j = leads.length
    · rw [e, at_]; exact L.wid f fn
    · exact (dn j hj e).wid
  · rw [len] at hj
    by_cases e : j = leads.length
    · rw [e, at_]; exact (L.bd f fn).up hN
    · exact (dn j hj e).bd
  · have lin : ∀ j, j < T.length → j ≠ leads.length → ∃ g u d : Int, g ≠ 0 ∧ u ≠ 0 ∧ g * dotL (Row T2 j) y = u * dotL (if j = f then Row T leads.length else Row T j) y - d * dotL (Row T f) y := fun j hj hk => by
      obtain ⟨g, u, d, hg, hu, h⟩ := (dn j hj hk).co
      exact ⟨g, u, d, hg, hu, dot_lin ((wr j hj hk).trans (dn j hj hk).wid.symm) ((L.wid f fn).trans (dn j hj hk).wid.symm) h y⟩
    constructor
    · intro h j hj
      have l0 : dotL (Row T f) y = 0 := by rw [← at_]; exact h _ (by omega)
      have back : ∀ i, i < T.length → i ≠ leads.length → dotL (if i = f then Row T leads.length else Row T i) y = 0 := fun i hi hk => by
        obtain ⟨g, u, d, hg, hu, e⟩ := lin i hi hk
        rw [h i (by omega), l0, Int.mul_zero, Int.mul_zero, Int.sub_zero] at e
        exact mul_zero_l hu e.symm
      by_cases e : j = f
      · rw [e]; exact l0
      by_cases e2 : j = leads.length
      · have := back f fn (fun q => e (e2.trans q.symm))
        rw [if_pos rfl] at this
        rw [e2]; exact this
      · have := back j hj e2
        rwa [if_neg e] at this
    · intro h j hj
      rw [len] at hj
      by_cases e : j = leads.length
      · rw [e, at_]; exact h f fn
      · obtain ⟨g, u, d, hg, hu, e1⟩ := lin j hj e
        rw [h f fn, show dotL (if j = f then Row T leads.length else Row T j) y = 0 from by
          split
          · exact h _ kn
          · exact h _ hj, Int.mul_zero, Int.mul_zero, Int.sub_zero] at e1
        exact mul_zero_l hg e1
  · rcases List.mem_append.mp hc with hc | hc
    · exact Nat.lt_succ_of_lt (L.lx c hc)
    · rw [List.mem_singleton.mp hc]; exact Nat.lt_succ_self x
  · rw [ll] at hi
    by_cases e : i = leads.length
    · rw [e, gk, at_]; exact nz
    · have hi' : i < leads.length := by omega
      rw [gl i hi']
      have D := dn i (by omega) e
      rw [if_neg (by omega)] at D
      exact D.ne (L.piv i hi') (L.clr i hi' f fn (by omega))
  · rw [ll] at hi
    rw [len] at hj
    by_cases e : i = leads.length
    · rw [e, gk]
      exact (dn j hj (by omega)).z
    · have hi' : i < leads.length := by omega
      rw [gl i hi']
      have lf := L.clr i hi' f fn (by omega)
      by_cases e2 : j = leads.length
      · rw [e2, at_]; exact lf
      · refine (dn j hj e2).zero ?_ lf
        split
        · exact L.clr i hi' _ kn (by omega)
        · exact L.clr i hi' j hj ne
  · rw [ll] at h1
    rw [len] at h2
    have D := dn j h2 (by omega)
    by_cases e : c = x
    · rw [e]; exact D.z
    · refine D.zero ?_ (L.low f kf fn c (by omega))
      split
      · exact L.low _ (Nat.le_refl _) kn c (by omega)
      · exact L.low j (by omega) h2 c (by omega)
  · refine h.span (C := W) hJ fun v ⟨j, hj, e⟩ => ?_
    subst e
    have l2 : InT T2 (rv (Row T f)) := ⟨leads.length, by omega, by rw [at_]⟩
    by_cases ef : j = f
    · rw [ef]; exact spn_one l2
    have go : ∀ i, i < T.length → i ≠ leads.length → Spn (InT T2) W (rv (if i = f then Row T leads.length else Row T i)) := fun i hi hk => by
      obtain ⟨g, u, d, hg, hu, e⟩ := (dn i hi hk).co
      refine spn_two (g := u) (x := g) (y := d) (a := rv (Row T2 i)) (b := rv (Row T f)) hu ⟨i, by omega, rfl⟩ l2 fun c => ?_
      have := e c
      show u * (if i = f then Row T leads.length else Row T i).getD c 0 = g * (Row T2 i).getD c 0 + d * (Row T f).getD c 0
      omega
    by_cases ek : j = leads.length
    · have := go f fn (by omega)
      rw [if_pos rfl] at this
      rw [ek]; exact this
    · have := go j hj ek
      rwa [if_neg ef] at this
  · refine h.span (C := W) hJ fun v ⟨j, hj, e⟩ => ?_
    subst e
    rw [len] at hj
    by_cases ek : j = leads.length
    · rw [ek, at_]; exact spn_one ⟨f, fn, rfl⟩
    · obtain ⟨g, u, d, hg, hu, e⟩ := (dn j hj ek).co
      refine spn_two (g := g) (x := u) (y := -d) (a := rv (if j = f then Row T leads.length else Row T j)) (b := rv (Row T f)) hg ?_ ⟨f, fn, rfl⟩ fun c => ?_
      · split
        · exact ⟨_, kn, rfl⟩
        · exact ⟨_, hj, rfl⟩
      · have := e c
        show g * (Row T2 j).getD c 0 = u * (if j = f then Row T leads.length else Row T j).getD c 0 + -d * (Row T f).getD c 0
        rw [Int.neg_mul]
        omega
/-- bits behind x columns -/
def bitsF (N x : Nat) : Nat := 2 ^ x * (N + 1) - 1
theorem bits_succ (N x : Nat) : bitsF N (x + 1) = 2 * bitsF N x + 1 := by
  unfold bitsF
  have : 0 < 2 ^ x * (N + 1) := Nat.mul_pos (Nat.two_pow_pos x) (Nat.succ_pos N)
  rw [Nat.pow_succ, Nat.mul_comm (2 ^ x) 2, Nat.mul_assoc]
  omega
theorem bits_mono {N x y : Nat} (h : x ≤ y) : bitsF N x ≤ bitsF N y := by
  induction h with
  | refl => exact Nat.le_refl _
  | step _ ih => rw [bits_succ]; omega
abbrev zn (cs : List Nat) : List Int := cs.map fun v : Nat => (v : Int)
end
section
variable {T0 T : List (List Int)} {W N C : Nat} {leads : List Nat}
/-- the product of the leading numbers but one -/
def prodL (a : Nat → Int) : Nat → Int
  | 0 => 1
  | k + 1 => prodL a k * a k
theorem prodL_ne {a : Nat → Int} : ∀ {k : Nat}, (∀ i, i < k → a i ≠ 0) → prodL a k ≠ 0
  | 0, _ => by show (1 : Int) ≠ 0; omega
  | k + 1, h => Int.mul_ne_zero (prodL_ne fun i hi => h i (Nat.lt_succ_of_lt hi)) (h k (Nat.lt_succ_self k))
theorem prodL_dvd {a : Nat → Int} {i : Nat} : ∀ {k : Nat}, i < k → a i ∣ prodL a k
  | 0, h => by cases h
  | k + 1, h => by
    by_cases e : i = k
    · subst e; exact Int.dvd_mul_left ..
    · exact Int.dvd_trans (prodL_dvd (k := k) (by omega)) (Int.dvd_mul_right ..)
def pivL (T : List (List Int)) (leads : List Nat) (i : Nat) : Int := (Row T i).getD (leads.getD i 0) 0
theorem getD_inj {l : List Nat} (nd : l.Nodup) {i j : Nat} (hi : i < l.length) (hj : j < l.length) (e : l.getD i 0 = l.getD j 0) : i = j := by
  rw [List.getD_eq_getElem?_getD, List.getD_eq_getElem?_getD, List.getElem?_eq_getElem hi, List.getElem?_eq_getElem hj] at e
  exact (List.getElem_inj nd).mp e
theorem getD_memN {l : List Nat} {i : Nat} (hi : i < l.length) : l.getD i 0 ∈ l := by
  rw [List.getD_eq_getElem?_getD, List.getElem?_eq_getElem hi]
  exact List.getElem_mem hi
/-- the vector that solves a cleared table whose other rows wish 0 -/
def solY (T : List (List Int)) (leads : List Nat) (C : Nat) (c : Nat) : Int :=
  if c = C then -prodL (pivL T leads) leads.length
  else match (List.range leads.length).find? (fun i => decide (leads.getD i 0 = c)) with
    | some i => (Row T i).getD C 0 * (prodL (pivL T leads) leads.length / pivL T leads i)
    | none => 0
theorem solY_lead {i : Nat} (nd : leads.Nodup) (lx : ∀ c ∈ leads, c < C) (hi : i < leads.length) : solY T leads C (leads.getD i 0) = (Row T i).getD C 0 * (prodL (pivL T leads) leads.length / pivL T leads i) := by
  unfold solY
  have := lx _ (getD_memN hi)
  rw [if_neg (by omega)]
  cases e : (List.range leads.length).find? (fun j => decide (leads.getD j 0 = leads.getD i 0)) with
  | none =>
    have := List.find?_eq_none.mp e i (List.mem_range.mpr hi)
    simp at this
  | some j =>
    have h1 := List.mem_range.mp (List.mem_of_find?_eq_some e)
    have h2 := List.find?_some e
    have h2 : leads.getD j 0 = leads.getD i 0 := by simpa using h2
    rw [getD_inj nd h1 hi h2]
theorem solY_none {c : Nat} (h : c ≠ C) (hn : ∀ i, i < leads.length → leads.getD i 0 ≠ c) : solY T leads C c = 0 := by
  unfold solY
  rw [if_neg h]
  cases e : (List.range leads.length).find? (fun j => decide (leads.getD j 0 = c)) with
  | none => rfl
  | some j =>
    have h2 := List.find?_some e
    have h2 : leads.getD j 0 = c := by simpa using h2
    exact absurd h2 (hn j (List.mem_range.mp (List.mem_of_find?_eq_some e)))
theorem dot_one : ∀ {r : List Int} {y : Nat → Int} {q : Nat}, (∀ c, c ≠ q → r.getD c 0 * y c = 0) → dotL r y = r.getD q 0 * y q
  | [], _, _, _ => by simp [dotL]
  | a :: r, y, 0, hz => by
    show a * y 0 + dotL r _ = a * y 0
    rw [dot_zero (r := r) (y := fun c => y (c + 1)) fun c => hz (c + 1) (by omega), Int.add_zero]
  | a :: r, y, q + 1, hz => by
    show a * y 0 + dotL r _ = r.getD q 0 * y (q + 1)
    rw [dot_one (r := r) (y := fun c => y (c + 1)) (q := q) fun c hc => hz (c + 1) (by omega), show a * y 0 = 0 from hz 0 (by omega), Int.zero_add]
/-- a row with two places that count -/
theorem dot_two : ∀ {r : List Int} {y : Nat → Int} {p q : Nat}, p < q → (∀ c, c ≠ p → c ≠ q → r.getD c 0 * y c = 0) → dotL r y = r.getD p 0 * y p + r.getD q 0 * y q
  | [], _, _, _, _, _ => by simp [dotL]
  | a :: r, y, p, q, h, hz => by
    show a * y 0 + dotL r _ = _
    cases q with
    | zero => exact absurd h (Nat.not_lt_zero _)
    | succ q =>
      cases p with
      | zero =>
        have z : ∀ c, c ≠ q → r.getD c 0 * y (c + 1) = 0 := fun c hc => hz (c + 1) (by omega) (by omega)
        rw [dot_one (r := r) (y := fun c => y (c + 1)) (q := q) z]
        rfl
      | succ p =>
        rw [dot_two (r := r) (y := fun c => y (c + 1)) (p := p) (q := q) (by omega) fun c h1 h2 => hz (c + 1) (by omega) (by omega), show a * y 0 = 0 from hz 0 (by omega) (by omega), Int.zero_add]
        rfl
theorem LI.sol (L : LI T0 W N C T leads) (z : ∀ j, leads.length ≤ j → j < T.length → (Row T j).getD C 0 = 0) (y : Nat → Int) (h1 : ∀ c, c ≤ C → y c = solY T leads C c) (h2 : ∀ c, C < c → y c = 0) : Ker T0 y := by
  refine (L.ker y).mp fun j hj => ?_
  by_cases hk : j < leads.length
  · have lc := L.lx _ (getD_memN hk)
    have hp := L.piv j hk
    rw [dot_two (p := leads.getD j 0) (q := C) lc fun c c1 c2 => ?_, h1 _ (by omega), h1 C (Nat.le_refl _), solY_lead L.nd L.lx hk]
    · have e0 : solY T leads C C = -prodL (pivL T leads) leads.length := if_pos rfl
      rw [e0]
      have dv := prodL_dvd (a := pivL T leads) hk
      have e1 : (Row T j).getD (leads.getD j 0) 0 * ((Row T j).getD C 0 * (prodL (pivL T leads) leads.length / pivL T leads j)) = (Row T j).getD C 0 * prodL (pivL T leads) leads.length := by
        show pivL T leads j * _ = _
        rw [← Int.mul_assoc, Int.mul_comm (pivL T leads j), Int.mul_assoc, Int.mul_ediv_cancel' dv]
      rw [e1, Int.mul_neg]
      omega
    · by_cases cC : C < c
      · rw [h2 c cC, Int.mul_zero]
      · rw [h1 c (by omega)]
        by_cases q : ∃ i, i < leads.length ∧ leads.getD i 0 = c
        · obtain ⟨i, hi, e⟩ := q
          have ne : j ≠ i := fun e2 => c1 (by rw [← e, e2])
          rw [← e, L.clr i hi j hj ne, Int.zero_mul]
        · rw [solY_none c2 fun i hi e => q ⟨i, hi, e⟩, Int.mul_zero]
  · refine dot_zero fun c => ?_
    by_cases c1 : c < C
    · rw [L.low j (by omega) hj c c1, Int.zero_mul]
    · by_cases c2 : c = C
      · rw [c2, z j (by omega) hj, Int.zero_mul]
      · rw [h2 c (by omega), Int.mul_zero]
end
section
/-- ratios that stand for y / D -/
def RatsOf (D : Int) (y : Nat → Int) (rs : List (Int × Int)) : Prop := ∀ c, c < rs.length → Low (rs.getD c (0, 1)) ∧ (rs.getD c (0, 1)).1 * D = y c * (rs.getD c (0, 1)).2 ∧ Bd 800 (rs.getD c (0, 1)).1 ∧ Bd 800 (rs.getD c (0, 1)).2
theorem lb_mul {a b : Int} {m n : Nat} (ha : Bd m a) (hb : Bd n b) : Bd (m + n) (a * b) := ha.mul hb
theorem mw_any {a b : Int} {m n : Nat} (ha : Bd m a) (hb : Bd n b) (h0 : 0 < m) (h1 : 0 < n) (h : m + n ≤ 1000000) : CMulW a b := wide_mul ha hb h0 h1 h
theorem gives_ok {ns : List Int} {rs : List (Int × Int)} {due D : Int} {y : Nat → Int} (hl : ns.length = rs.length) (h50 : rs.length ≤ 45) (hD : D ≠ 0) (hr : RatsOf D y rs) (hn : BdR 800 ns) (hdue : Bd 800 due) (e : dotL ns y = due * D) {Q : Bool → Prop} {X : HE → Prop} (h : Q true) : m__law_gives ns rs due Q X := by
  unfold m__law_gives
  rw [Int.toNat_natCast]
  have tk : ∀ k, k < ns.length → dotL (ns.take (k + 1)) y = dotL (ns.take k) y + ns.getD k 0 * y k := fun k hk => by
    rw [List.take_succ, dot_app, List.getElem?_eq_getElem hk, List.length_take, Nat.min_eq_left (by omega), List.getD_eq_getElem?_getD, List.getElem?_eq_getElem hk]
    show _ + (ns[k] * y (k + 0) + 0) = _ + ns[k] * y k
    rw [Int.add_zero, Nat.add_zero]
  refine forD_inv (fun pre s => s.1 * D = s.2 * dotL (ns.take pre.length) y ∧ s.2 ≠ 0 ∧ Bd (1 + 2400 * pre.length) s.1 ∧ Bd (1 + 2400 * pre.length) s.2) ⟨by show (0 : Int) * D = 1 * 0; omega, by decide, by show (0 : Int).natAbs < 2 ^ (1 + 0); decide, by show (1 : Int).natAbs < 2 ^ (1 + 0); decide⟩ (fun pre x post s nx ex hi hnx => ?_) fun s hi => ?_
  · obtain ⟨e1, e2⟩ := intsF_sp ex
    subst e1
    obtain ⟨i1, i2, i3, i4⟩ := hi
    have pl : (pre ++ [(pre.length : Int)]).length = pre.length + 1 := by rw [List.length_append]; rfl
    have ar : atI rs (pre.length : Int) = some (rs.getD pre.length (0, 1)) := atI_nat (by rw [List.getD_eq_getElem?_getD, List.getElem?_eq_getElem e2]; rfl)
    obtain ⟨lo, hy, t8, b8⟩ := hr pre.length e2
    have an : atI ns (pre.length : Int) = some (ns.getD pre.length 0) := atR (by omega)
    have n8 := hn.at pre.length
    have nt := lb_mul n8 t8
    refine ⟨_, ar, mw_any i3 b8 (by omega) (by omega) (by omega), _, an, _, ar, mw_any n8 t8 (by omega) (by omega) (by omega), mw_any nt i4 (by omega) (by omega) (by omega), fun top et => ⟨_, ar, mw_any i4 b8 (by omega) (by omega) (by omega), fun bot eb => hnx _ ⟨?_, ?_, ?_, ?_⟩⟩⟩
    · rw [pl, tk _ (by omega)]
      dsimp only
      rw [et, eb]
      generalize ns.getD pre.length 0 = n at *
      generalize rs.getD pre.length (0, 1) = r at *
      generalize dotL (ns.take pre.length) y = S at *
      calc (s.1 * r.2 + n * r.1 * s.2) * D = (s.1 * D) * r.2 + n * (r.1 * D) * s.2 := by
            rw [Int.add_mul, Int.mul_assoc s.1, Int.mul_comm r.2 D, ← Int.mul_assoc s.1, Int.mul_assoc n r.1 s.2, Int.mul_assoc n (r.1 * s.2) D, Int.mul_assoc r.1 s.2 D, Int.mul_comm s.2 D, ← Int.mul_assoc r.1 D, ← Int.mul_assoc n]
        _ = (s.2 * S) * r.2 + n * (y pre.length * r.2) * s.2 := by rw [i1, hy]
        _ = s.2 * r.2 * (S + n * y pre.length) := by
            rw [Int.mul_add, Int.mul_assoc s.2 S, Int.mul_comm S, ← Int.mul_assoc s.2 r.2 S, Int.mul_comm (n * (y pre.length * r.2)) s.2, Int.mul_assoc s.2 r.2, ← Int.mul_assoc n, Int.mul_comm (n * y pre.length) r.2, ← Int.mul_assoc s.2 r.2 (n * y pre.length)]
    · rw [eb]
      exact Int.mul_ne_zero i2 (by have := lo.1; omega)
    · rw [pl]
      dsimp only
      rw [et]
      have a1 := (lb_mul i3 b8).up (n := 1 + 2400 * pre.length + 1600) (by omega)
      have a2 := (lb_mul nt i4).up (n := 1 + 2400 * pre.length + 1600) (by omega)
      exact (a1.add a2).up (by omega)
    · rw [pl]
      dsimp only
      rw [eb]
      exact (lb_mul i4 b8).up (by omega)
  · rw [intsF_len, List.take_of_length_le (by omega)] at hi
    obtain ⟨i1, i2, i3, i4⟩ := hi
    refine ⟨mw_any hdue i4 (by omega) (by omega) (by omega), ?_⟩
    have : s.1 = due * s.2 := by
      refine mul_cancel hD ?_
      rw [i1, e, ← Int.mul_assoc, Int.mul_comm s.2]
    rw [decide_eq_true this]
    exact h
theorem ratios_ok {rs : List (Int × Int)} {m : Int} (hl : (rs.length : Int) = m) (h : ∀ r ∈ rs, Low r ∧ Sm r.2) {Q : Bool → Prop} {X : HE → Prop} (hq : Q true) : m__law_ratios rs m Q X := by
  unfold m__law_ratios
  refine ifD_f (by rw [decide_eq_true hl]; rfl) (forD_all (fun r hr nx hnx => ?_) hq)
  obtain ⟨lo, sm⟩ := h r hr
  refine ⟨(fun q => by cases q), fun _ => ⟨(fun q => by cases q), fun _ => ifD_f rfl ?_⟩⟩
  have l1 := lo.1
  refine ⟨fun q => absurd (of_decide_eq_true q) (by omega), fun _ => divisor_ok sm ?_⟩
  refine ifD_f ?_ hnx
  rw [decide_eq_true (by rw [lo.2]; rfl)]
  rfl
end
section
/-- places in their order -/
def upI (n : Nat) (I : List Nat) : List Nat := (List.range n).filter fun i => decide (i ∈ I)
theorem upI_perm {n : Nat} {I : List Nat} (nd : I.Nodup) (h : ∀ i ∈ I, i < n) : I.Perm (upI n I) := (List.perm_ext_iff_of_nodup nd (List.nodup_range.filter _)).mpr fun a => by
  rw [List.mem_filter, List.mem_range, decide_eq_true_iff]
  exact ⟨fun q => ⟨h a q, q⟩, fun q => q.2⟩
theorem nodup_lt {n : Nat} {I : List Nat} (nd : I.Nodup) (h : ∀ i ∈ I, i < n) : I.length ≤ n := by
  rw [(upI_perm nd h).length_eq]
  have := List.length_filter_le (fun i => decide (i ∈ I)) (List.range n)
  rw [List.length_range] at this
  exact this
/-- the size of the greatest minor that is not 0 -/
def Rk (V : (Nat → Int) → Prop) (C r : Nat) : Prop := (∀ J : List Nat, J.Pairwise (· < ·) → (∀ c ∈ J, c < C) → r < J.length → Van V J) ∧ ∃ J : List Nat, J.Pairwise (· < ·) ∧ (∀ c ∈ J, c < C) ∧ J.length = r ∧ ¬ Van V J
theorem Rk.of {V V' : (Nat → Int) → Prop} {C r : Nat} (h : Rk V C r) (e : ∀ J : List Nat, (∀ c ∈ J, c < C) → (Van V J ↔ Van V' J)) : Rk V' C r := by
  obtain ⟨a, J, j0, j1, j2, j3⟩ := h
  exact ⟨fun J hp hJ hl => (e J hJ).mp (a J hp hJ hl), J, j0, j1, j2, fun q => j3 ((e J j1).mpr q)⟩
/-- rows by their places -/
theorem by_places {T : List (List Int)} : ∀ {R : List (Nat → Int)}, (∀ r ∈ R, InT T r) → ∃ I : List Nat, R = I.map (fun i => rv (Row T i)) ∧ ∀ i ∈ I, i < T.length
  | [], _ => ⟨[], rfl, fun i hi => by cases hi⟩
  | r :: R, h => by
    obtain ⟨I, e, hI⟩ := by_places (R := R) fun q hq => h q (List.mem_cons_of_mem _ hq)
    obtain ⟨j, hj, e2⟩ := h r (List.mem_cons_self ..)
    refine ⟨j :: I, by rw [e, e2]; rfl, fun i hi => ?_⟩
    rcases List.mem_cons.mp hi with q | q
    · rw [q]; exact hj
    · exact hI i q
/-- more rows than rows that are not 0 -/
theorem van_more {T : List (List Int)} {r : Nat} {J : List Nat} (hz : ∀ j, r ≤ j → j < T.length → ∀ c ∈ J, (Row T j).getD c 0 = 0) (hl : r < J.length) : Van (InT T) J := fun R hR hV => by
  obtain ⟨I, e, hI⟩ := by_places hV
  rw [e, List.length_map] at hR
  rw [e]
  by_cases nd : I.Nodup
  · by_cases q : ∃ i ∈ I, r ≤ i
    · obtain ⟨i, hi, ri⟩ := q
      exact Dt_null (List.mem_map.mpr ⟨i, hi, rfl⟩) fun c hc => hz i ri (hI i hi) c hc
    · have := nodup_lt (n := r) nd fun i hi => Nat.lt_of_not_le fun ri => q ⟨i, hi, ri⟩
      omega
  · exact Dt_dup (M := fun i => rv (Row T i)) nd
/-- a row that is 0 but for the last column -/
theorem iot_last {r : Nat → Int} {c : Nat} : ∀ {J : List Nat} {F : List Nat → Int}, (∀ k ∈ J, r k = 0) → iot r (J ++ [c]) F = r c * F J ∨ iot r (J ++ [c]) F = -(r c * F J)
  | [], F, _ => Or.inl (by show r c * F [] - 0 = _; omega)
  | j :: J, F, h => by
    have ih := iot_last (r := r) (c := c) (J := J) (F := fun K => F (j :: K)) fun k hk => h k (List.mem_cons_of_mem _ hk)
    rw [List.cons_append, iot_c, h j (List.mem_cons_self ..), Int.zero_mul]
    rcases ih with e | e
    · exact Or.inr (by rw [e]; omega)
    · exact Or.inl (by rw [e]; omega)
variable {T0 T : List (List Int)} {W N C : Nat} {leads : List Nat}
theorem LI.diag (L : LI T0 W N C T leads) : Dt ((List.range leads.length).map fun i => rv (Row T i)) leads ≠ 0 := by
  have g : ∀ i, i < leads.length → (((List.range leads.length).map fun i => rv (Row T i)).getD i fun _ => 0) = rv (Row T i) := fun i hi => by
    rw [List.getD_eq_getElem?_getD, List.getElem?_map, List.getElem?_range hi]
    rfl
  have lT := L.ll
  have ln : ((List.range leads.length).map fun i => rv (Row T i)).length = leads.length := by rw [List.length_map, List.length_range]
  refine Dt_diag ln (fun i hi k hk ne => ?_) fun i hi => ?_
  · rw [ln] at hi
    rw [g i hi]
    exact L.clr k hk i (by omega) ne
  · rw [ln] at hi
    rw [g i hi]
    exact L.piv i hi
theorem LI.rk (L : LI T0 W N C T leads) (hC : C ≤ W) : Rk (InT T0) C leads.length := by
  have lT := L.ll
  refine Rk.of (V := InT T) ⟨fun J _ hJ hl => van_more (fun j h1 h2 c hc => L.low j h1 h2 c (hJ c hc)) hl, leads, L.asc, L.lx, rfl, fun h => ?_⟩ fun J hJ => L.van J fun c hc => Nat.lt_of_lt_of_le (hJ c hc) hC
  refine L.diag (h _ (by rw [List.length_map, List.length_range]) fun v hv => ?_)
  obtain ⟨i, hi, e⟩ := List.mem_map.mp hv
  exact ⟨i, by have := List.mem_range.mp hi; omega, e.symm⟩
theorem LI.rkE (L : LI T0 W N C T leads) (hC : C + 1 ≤ W) (z : ∀ j, leads.length ≤ j → j < T.length → (Row T j).getD C 0 = 0) : Rk (InT T0) (C + 1) leads.length := by
  have lT := L.ll
  refine Rk.of (V := InT T) ⟨fun J _ hJ hl => van_more (fun j h1 h2 c hc => ?_) hl, leads, L.asc, fun c hc => Nat.lt_succ_of_lt (L.lx c hc), rfl, fun h => ?_⟩ fun J hJ => L.van J fun c hc => Nat.lt_of_lt_of_le (hJ c hc) hC
  · by_cases e : c = C
    · rw [e]; exact z j h1 h2
    · exact L.low j h1 h2 c (by have := hJ c hc; omega)
  refine L.diag (h _ (by rw [List.length_map, List.length_range]) fun v hv => ?_)
  obtain ⟨i, hi, e⟩ := List.mem_map.mp hv
  exact ⟨i, by have := List.mem_range.mp hi; omega, e.symm⟩
theorem LI.rkN (L : LI T0 W N C T leads) (hC : C + 1 ≤ W) {j : Nat} (h1 : leads.length ≤ j) (h2 : j < T.length) (nz : (Row T j).getD C 0 ≠ 0) : Rk (InT T0) (C + 1) (leads.length + 1) := by
  have lT := L.ll
  refine Rk.of (V := InT T) ⟨fun J _ hJ hl R hR hV => ?_, leads ++ [C], List.pairwise_append.mpr ⟨L.asc, List.pairwise_singleton .., fun a ha b hb => by rw [List.mem_singleton.mp hb]; exact L.lx a ha⟩, fun c hc => ?_, by rw [List.length_append]; rfl, fun h => ?_⟩ fun J hJ => L.van J fun c hc => Nat.lt_of_lt_of_le (hJ c hc) hC
  · -- rows that are 0 but for the column C are multiples of one
    refine Van.span (V := fun v => (∃ i, i < leads.length ∧ v = rv (Row T i)) ∨ v = fun c => if c = C then 1 else 0) (V' := InT T) (C := C + 1) hJ (fun R hR hV => ?_) (fun v hv => ?_) R hR hV
    · -- at most leads and one
      have key : ∀ {R : List (Nat → Int)}, (∀ r ∈ R, (∃ i, i < leads.length ∧ r = rv (Row T i)) ∨ r = fun c => if c = C then 1 else 0) → ∃ I : List Nat, R = I.map (fun i => if i < leads.length then rv (Row T i) else fun c => if c = C then 1 else 0) ∧ ∀ i ∈ I, i < leads.length + 1 := by
        intro R
        induction R with
        | nil => exact fun _ => ⟨[], rfl, fun i hi => by cases hi⟩
        | cons r R ih =>
          intro h
          obtain ⟨I, e, hI⟩ := ih fun q hq => h q (List.mem_cons_of_mem _ hq)
          rcases h r (List.mem_cons_self ..) with ⟨i, hi, e2⟩ | e2
          · refine ⟨i :: I, ?_, fun k hk => ?_⟩
            · rw [List.map_cons, if_pos hi, ← e2, ← e]
            · rcases List.mem_cons.mp hk with q | q
              · omega
              · exact hI k q
          · refine ⟨leads.length :: I, ?_, fun k hk => ?_⟩
            · rw [List.map_cons, if_neg (Nat.lt_irrefl _), ← e, ← e2]
            · rcases List.mem_cons.mp hk with q | q
              · omega
              · exact hI k q
      obtain ⟨I, e, hI⟩ := key hV
      rw [e, List.length_map] at hR
      rw [e]
      by_cases nd : I.Nodup
      · have := nodup_lt nd hI
        omega
      · exact Dt_dup (M := fun i => if i < leads.length then rv (Row T i) else fun c => if c = C then 1 else 0) nd
    · obtain ⟨i, hi, e⟩ := hv
      subst e
      by_cases q : i < leads.length
      · exact spn_one (Or.inl ⟨i, q, rfl⟩)
      · refine ⟨1, [((Row T i).getD C 0, fun c => if c = C then 1 else 0)], by decide, (fun p hp => by rw [List.mem_singleton.mp hp]; exact Or.inr rfl), fun c hc => ?_⟩
        show 1 * (Row T i).getD c 0 = (Row T i).getD C 0 * (if c = C then 1 else 0) + 0
        by_cases e : c = C
        · rw [e, if_pos rfl]; omega
        · rw [if_neg e, L.low i (by omega) hi c (by omega)]; omega
  · rcases List.mem_append.mp hc with q | q
    · exact Nat.lt_succ_of_lt (L.lx c q)
    · rw [List.mem_singleton.mp q]; exact Nat.lt_succ_self _
  · have d := L.diag
    have n := h (rv (Row T j) :: (List.range leads.length).map fun i => rv (Row T i)) (by rw [List.length_cons, List.length_map, List.length_range, List.length_append]; rfl) fun v hv => by
      rcases List.mem_cons.mp hv with q | q
      · exact ⟨j, h2, q⟩
      · obtain ⟨i, hi, e⟩ := List.mem_map.mp q
        exact ⟨i, by have := List.mem_range.mp hi; omega, e.symm⟩
    have z : ∀ k ∈ leads, rv (Row T j) k = 0 := fun k hk => L.low j h1 h2 k (L.lx k hk)
    have nn : rv (Row T j) C * Dt ((List.range leads.length).map fun i => rv (Row T i)) leads ≠ 0 := fun e => (Int.mul_eq_zero.mp e).elim nz d
    rcases iot_last (r := rv (Row T j)) (c := C) (F := Dt ((List.range leads.length).map fun i => rv (Row T i))) z with e | e
    · exact nn (e.symm.trans n)
    · have : -(rv (Row T j) C * Dt ((List.range leads.length).map fun i => rv (Row T i)) leads) = 0 := e.symm.trans n
      omega
end
section
/-- rows that are not 0 are few -/
def Few (T : List (List Int)) (C : Nat) : Prop := ∃ Z : List Nat, Z.length ≤ 3 ∧ ∀ j, j < T.length → j ∉ Z → ∀ c, c < C → (Row T j).getD c 0 = 0
theorem Few.down {T : List (List Int)} {C x : Nat} (h : Few T C) (e : x ≤ C) : Few T x := by
  obtain ⟨Z, z3, hz⟩ := h
  exact ⟨Z, z3, fun j hj hn c hc => hz j hj hn c (by omega)⟩
theorem len_sub : ∀ {I Z : List Nat}, I.Nodup → (∀ i ∈ I, i ∈ Z) → I.length ≤ Z.length
  | [], _, _, _ => Nat.zero_le _
  | i :: I, Z, nd, h => by
    have nd := List.nodup_cons.mp nd
    have hi : i ∈ Z := h i (List.mem_cons_self ..)
    have := len_sub (I := I) (Z := Z.erase i) nd.2 fun k hk => (List.mem_erase_of_ne (fun e : k = i => nd.1 (by rw [← e]; exact hk))).mpr (h k (List.mem_cons_of_mem _ hk))
    rw [List.length_erase_of_mem hi] at this
    have : 0 < Z.length := List.length_pos_of_mem hi
    rw [List.length_cons]
    omega
theorem van_few {T : List (List Int)} {Z J : List Nat} (hz : ∀ j, j < T.length → j ∉ Z → ∀ c ∈ J, (Row T j).getD c 0 = 0) (hl : Z.length < J.length) : Van (InT T) J := fun R hR hV => by
  obtain ⟨I, e, hI⟩ := by_places hV
  rw [e, List.length_map] at hR
  rw [e]
  by_cases nd : I.Nodup
  · by_cases q : ∃ i ∈ I, i ∉ Z
    · obtain ⟨i, hi, ri⟩ := q
      exact Dt_null (List.mem_map.mpr ⟨i, hi, rfl⟩) fun c hc => hz i (hI i hi) ri c hc
    · have := len_sub nd fun i hi => Classical.byContradiction fun ri => q ⟨i, hi, ri⟩
      omega
  · exact Dt_dup (M := fun i => rv (Row T i)) nd
theorem LI.few {T0 T : List (List Int)} {W N x : Nat} {leads : List Nat} (L : LI T0 W N x T leads) (hx : x ≤ W) (hF : Few T0 x) : leads.length ≤ 3 := by
  obtain ⟨Z, z3, hz⟩ := hF
  obtain ⟨_, J, j0, j1, j2, j3⟩ := L.rk hx
  by_cases q : leads.length ≤ 3
  · exact q
  · exact (j3 (van_few (Z := Z) (fun j hj hn c hc => hz j hj hn c (j1 c hc)) (by omega))).elim
theorem bits3 {N k : Nat} (hN : N ≤ 20) (hk : k ≤ 3) : bitsF N k ≤ bitsF N (k + 1) ∧ bitsF N (k + 1) = 2 * bitsF N k + 1 ∧ 2 * bitsF N k + 1 ≤ 800 := by
  have a := bits_succ N k
  have b := bits_mono (N := N) (x := k) (y := 3) hk
  have c : bitsF N 3 ≤ 167 := by
    unfold bitsF
    omega
  omega
theorem lead_ok3 {T0 : List (List Int)} {W C N : Nat} (hC : C ≤ W) (hW : W ≤ 1000) (hlen : T0.length ≤ 1000) (wid : ∀ j, j < T0.length → (Row T0 j).length = W) (bd : ∀ j, j < T0.length → BdR N (Row T0 j)) (hN : N ≤ 20) (hF : Few T0 C) {Q : List Int × List (List Int) → Prop} {X : HE → Prop}
    (h : ∀ T leads, LI T0 W 800 C T leads → Q (zn leads, T)) : m_lead_columns T0 (C : Int) Q X := by
  unfold m_lead_columns
  have hb : big = 100000 := rfl
  refine ⟨by omega, ?_⟩
  rw [Int.toNat_natCast]
  refine forD_inv (fun pre s => ∃ T leads, s = (T, zn leads) ∧ LI T0 W (bitsF N leads.length) pre.length T leads) ⟨T0, [], rfl, ⟨rfl, wid, fun j hj => (bd j hj).up (by show N ≤ 2 ^ 0 * (N + 1) - 1; omega), fun y => Iff.rfl, Nat.zero_le _, (fun c hc => by cases hc), List.nodup_nil, (fun i hi => by cases hi), (fun i hi => by cases hi), (fun j _ _ c hc => by cases hc), fun J _ => Iff.rfl, List.Pairwise.nil⟩⟩ (fun pre x post s nx ex hi hnx => ?_) fun s hi => ?_
  · obtain ⟨e1, e2⟩ := intsF_sp ex
    subst e1
    obtain ⟨T, leads, rfl, L⟩ := hi
    have pl : (pre ++ [(pre.length : Int)]).length = pre.length + 1 := by rw [List.length_append]; rfl
    have hlT := L.len
    have few := L.few (by omega) (hF.down (by omega))
    obtain ⟨b2, b4, b3⟩ := bits3 hN few
    intro fd ef
    dsimp only at ef ⊢
    rw [List.length_map] at ef
    refine whileD_inv (fun s => ∃ f : Nat, s = (f : Int) ∧ leads.length ≤ f ∧ f ≤ T.length ∧ ∀ j, leads.length ≤ j → j < f → (Row T j).getD pre.length 0 = 0) (fun s => T.length + 1 - s.toNat) ⟨leads.length, ef, Nat.le_refl _, L.ll, fun j h1 h2 => absurd h1 (by omega)⟩ (fun s nx2 ⟨f, e, f1, f2, f3⟩ hnx2 => ?_)
    subst e
    by_cases fn : f < T.length
    · refine ⟨fun _ => ⟨_, atRow fn, _, atR (by rw [L.wid f fn]; omega), ?_⟩, fun q => absurd (of_decide_eq_false q) (by omega)⟩
      by_cases z : (Row T f).getD pre.length 0 = 0
      · refine ifD_t (decide_eq_true z) (hnx2 _ ⟨f + 1, by omega, by omega, by omega, fun j h1 h2 => ?_⟩ (by omega))
        by_cases e : j = f
        · rw [e]; exact z
        · exact f3 j h1 (by omega)
      refine ifD_f (decide_eq_false z) (ifD_f (decide_eq_false (by omega)) ?_)
      intro at_ ea
      rw [List.length_map] at ea
      subst ea
      have kn : leads.length < T.length := by omega
      refine ⟨_, atRow fn, _, atRow kn, _, ixNn kn, _, ixNn fn, ?_⟩
      have l1 : (T.set leads.length (Row T f)).length = T.length := List.length_set
      have l2 : ((T.set leads.length (Row T f)).set f (Row T leads.length)).length = T.length := by rw [List.length_set, l1]
      have r1 : ∀ j, Row ((T.set leads.length (Row T f)).set f (Row T leads.length)) j = if j = f then Row T leads.length else if j = leads.length then Row T f else Row T j := fun j => by
        rw [row_set (by omega), row_set kn]
      have rk : Row ((T.set leads.length (Row T f)).set f (Row T leads.length)) leads.length = Row T f := by
        rw [r1]
        by_cases e : leads.length = f
        · rw [if_pos e, e]
        · rw [if_neg e, if_pos rfl]
      revert l2 r1 rk
      show _ → _ → _ → ∃ v21, atI ((T.set leads.length (Row T f)).set f (Row T leads.length)) ((leads.length : Nat) : Int) = some v21 ∧ _
      generalize (T.set leads.length (Row T f)).set f (Row T leads.length) = T1
      intro l2 r1 rk
      refine ⟨_, atRow (by omega), ?_⟩
      rw [rk, Int.toNat_natCast]
      refine forD_inv (fun p2 T2 => T2.length = T.length ∧ (∀ j, p2.length ≤ j → Row T2 j = Row T1 j) ∧ Row T2 leads.length = Row T f ∧ ∀ j, j < p2.length → j < T.length → j ≠ leads.length → Done W (bitsF N (leads.length + 1)) pre.length (Row T f) (if j = f then Row T leads.length else Row T j) (Row T2 j)) ⟨l2, fun j _ => rfl, rk, fun j hj => by cases hj⟩ (fun p2 x2 po2 T2 nx3 ex2 hi2 hnx3 => ?_) fun T2 hi2 => ?_
      · obtain ⟨e3, e4⟩ := intsF_sp ex2
        subst e3
        rw [l2] at e4
        obtain ⟨i1, i2, i3, i4⟩ := hi2
        have p2l : (p2 ++ [(p2.length : Int)]).length = p2.length + 1 := by rw [List.length_append]; rfl
        by_cases ek : p2.length = leads.length
        · refine ⟨fun q => (by rw [decide_eq_true (by omega)] at q; cases q), fun _ => ifD_f rfl (hnx3 _ ⟨i1, fun j hj => i2 j (by rw [p2l] at hj; omega), i3, fun j hj h1 h2 => ?_⟩)⟩
          rw [p2l] at hj
          exact i4 j (by omega) h1 h2
        refine ⟨fun _ => ⟨_, atRow (by omega), ?_⟩, fun q => (by rw [decide_eq_false (by omega)] at q; cases q)⟩
        have ro : Row T2 p2.length = if p2.length = f then Row T leads.length else Row T p2.length := by
          rw [i2 p2.length (Nat.le_refl _), r1, if_neg ek]
        have wo : (Row T2 p2.length).length = W := by
          rw [ro]
          split
          · exact L.wid _ kn
          · exact L.wid _ e4
        have bo : BdR (bitsF N leads.length) (Row T2 p2.length) := by
          rw [ro]
          split
          · exact L.bd _ kn
          · exact L.bd _ e4
        refine ⟨_, atR (by rw [wo]; omega), ?_⟩
        by_cases z2 : (Row T2 p2.length).getD pre.length 0 = 0
        · refine ifD_f (by rw [decide_eq_true z2]; rfl) (hnx3 _ ⟨i1, fun j hj => i2 j (by rw [p2l] at hj; omega), i3, fun j hj h1 h2 => ?_⟩)
          rw [p2l] at hj
          by_cases e : j = p2.length
          · subst e
            rw [← ro]
            exact ⟨wo, bo.up b2, z2, 1, 1, 0, by omega, by omega, fun c => by omega⟩
          · exact i4 j (by omega) h1 h2
        · refine ifD_t (by rw [decide_eq_false z2]; rfl) ⟨_, atRow (by omega), combined_ok wo (L.wid f fn) (by omega) bo (L.bd f fn) b3 fun row' g hg hl he hb' => ⟨_, ixNn (by omega), hnx3 _ ⟨by rw [List.length_set]; exact i1, fun j hj => ?_, ?_, fun j hj h1 h2 => ?_⟩⟩⟩
          · rw [p2l] at hj
            rw [row_set (by omega), if_neg (by omega)]
            exact i2 j (by omega)
          · rw [row_set (by omega), if_neg (fun q => ek q.symm)]
            exact i3
          · rw [p2l] at hj
            rw [row_set (by omega)]
            by_cases e : j = p2.length
            · subst e
              rw [if_pos rfl, ← ro]
              have zz : row'.getD pre.length 0 = 0 := by
                have := he pre.length
                rw [Int.mul_comm ((Row T f).getD pre.length 0), Int.sub_self] at this
                exact mul_zero_l (by omega) this
              exact ⟨hl, by rw [b4]; exact hb', zz, g, (Row T f).getD pre.length 0, (Row T2 p2.length).getD pre.length 0, by omega, z, he⟩
            · rw [if_neg e]
              exact i4 j (by omega) h1 h2
      · obtain ⟨i1, i2, i3, i4⟩ := hi2
        rw [intsF_len, l2] at i4
        have := L.ll
        refine ⟨by rw [List.length_map]; omega, hnx _ ⟨T2, leads ++ [pre.length], ?_, ?_⟩⟩
        · unfold zn
          rw [List.map_append]
          rfl
        · rw [pl, show (leads ++ [pre.length]).length = leads.length + 1 by rw [List.length_append]; rfl]
          exact L.pivot b2 f1 fn z i1 i3 fun j hj hk => i4 j hj hj hk
    · have fe : f = T.length := by omega
      refine ⟨fun q => absurd (of_decide_eq_true q) (by omega), fun _ => ifD_f rfl (ifD_t (decide_eq_true (by omega)) (hnx _ ⟨T, leads, rfl, ?_⟩))⟩
      rw [pl]
      exact L.skip (Nat.le_refl _) fun j h1 h2 => f3 j h1 (by omega)
  · obtain ⟨T, leads, rfl, L⟩ := hi
    rw [intsF_len] at L
    have few := L.few hC hF
    obtain ⟨b2, b4, b3⟩ := bits3 hN few
    exact h T leads { L with bd := fun j hj => (L.bd j hj).up (by omega) }
end
section
theorem dot_split {C : Nat} {y : Nat → Int} : ∀ {r : List Int}, C < r.length → dotL r y = dotL (r.take C) y + r.getD C 0 * y C + dotL (r.drop (C + 1)) fun c => y (C + 1 + c) := fun {r} h => by
  have e : r = r.take C ++ (r.getD C 0 :: r.drop (C + 1)) := by
    rw [List.getD_eq_getElem?_getD, List.getElem?_eq_getElem h]
    show r = r.take C ++ (r[C] :: r.drop (C + 1))
    rw [← List.drop_eq_getElem_cons h, List.take_append_drop]
  have tl : (r.take C).length = C := by rw [List.length_take]; omega
  have : dotL (r.take C ++ (r.getD C 0 :: r.drop (C + 1))) y = dotL (r.take C) y + (r.getD C 0 * y C + dotL (r.drop (C + 1)) fun c => y (C + 1 + c)) := by
    rw [dot_app, tl]
    show _ + (r.getD C 0 * y (C + 0) + dotL (r.drop (C + 1)) fun c => y (C + (c + 1))) = _
    rw [Nat.add_zero]
    congr 3
    funext c
    congr 1
    omega
  rw [← e] at this
  rw [this]
  omega
theorem dot_comm : ∀ {a b : List Int}, a.length = b.length → dotL a (fun k => b.getD k 0) = dotL b fun k => a.getD k 0
  | [], [], _ => rfl
  | x :: a, z :: b, h => by
    show x * z + dotL a (fun k => b.getD k 0) = z * x + dotL b fun k => a.getD k 0
    rw [dot_comm (a := a) (b := b) (by simpa using h), Int.mul_comm]
  | [], _ :: _, h => by cases h
  | _ :: _, [], h => by cases h
theorem dot_neg : ∀ {r : List Int} {y : Nat → Int}, dotL r (fun c => -y c) = -dotL r y
  | [], _ => rfl
  | a :: r, y => by
    show a * -y 0 + dotL r (fun c => -y (c + 1)) = -(a * y 0 + dotL r fun c => y (c + 1))
    rw [dot_neg (r := r) (y := fun c => y (c + 1)), Int.mul_neg]
    omega
theorem take_getD {r : List Int} {C c : Nat} : (r.take C).getD c 0 = if c < C then r.getD c 0 else 0 := by
  rw [List.getD_eq_getElem?_getD, List.getD_eq_getElem?_getD, List.getElem?_take]
  split <;> rfl
theorem drop_getD {r : List Int} {C c : Nat} : (r.drop C).getD c 0 = r.getD (C + c) 0 := by
  rw [List.getD_eq_getElem?_getD, List.getD_eq_getElem?_getD, List.getElem?_drop]
theorem row_map {α : Type} {F : α → List Int} {l : List α} {j : Nat} {x : α} (h : l[j]? = some x) : Row (l.map F) j = F x := by
  unfold Row
  rw [List.getD_eq_getElem?_getD, List.getElem?_map, h]
  rfl
theorem row_mem {T : List (List Int)} {k : Nat} {r : List Int} (h : r ∈ T.drop k) : ∃ j, k ≤ j ∧ j < T.length ∧ Row T j = r := by
  obtain ⟨i, hi, e⟩ := List.getElem_of_mem h
  rw [List.length_drop] at hi
  refine ⟨k + i, by omega, by omega, ?_⟩
  rw [List.getElem_drop] at e
  unfold Row
  rw [List.getD_eq_getElem?_getD, List.getElem?_eq_getElem (by omega), ← e]
  rfl
theorem mem_row {T : List (List Int)} {k j : Nat} (h1 : k ≤ j) (h2 : j < T.length) : Row T j ∈ T.drop k := by
  refine List.mem_iff_getElem.mpr ⟨j - k, by rw [List.length_drop]; omega, ?_⟩
  rw [List.getElem_drop]
  unfold Row
  rw [List.getD_eq_getElem?_getD, List.getElem?_eq_getElem h2]
  show T[k + (j - k)] = T[j]
  congr 1
  omega
variable {rows : List (List Int)} {wished : List Int} {C m N : Nat}
/-- what is asked: rows of one width, as many wished numbers -/
structure Asks (rows : List (List Int)) (wished : List Int) (C m N : Nat) : Prop where
  rl : rows.length = m
  wl : wished.length = m
  m40 : m ≤ 45
  c40 : C ≤ 45
  wid : ∀ j, j < m → (Row rows j).length = C
  bd : ∀ j, j < m → BdR N (Row rows j)
  wb : BdR N wished
  n1 : 1 ≤ N
  bits : N ≤ 20
  few : Few rows C
def augT (rows : List (List Int)) (wished : List Int) : List (List Int) := (rows.zip wished).map fun x => x.1 ++ (x.2 :: [])
theorem getD_get {l : List Int} {j : Nat} (h : j < l.length) : l[j]? = some (l.getD j 0) := by rw [List.getD_eq_getElem?_getD, List.getElem?_eq_getElem h]; rfl
theorem row_get {T : List (List Int)} {j : Nat} (h : j < T.length) : T[j]? = some (Row T j) := by unfold Row; rw [List.getD_eq_getElem?_getD, List.getElem?_eq_getElem h]; rfl
theorem Asks.aug (A : Asks rows wished C m N) {j : Nat} (hj : j < m) : Row (augT rows wished) j = Row rows j ++ [wished.getD j 0] := by
  unfold augT
  rw [row_map (x := (Row rows j, wished.getD j 0)) (List.getElem?_zip_eq_some.mpr ⟨row_get (by rw [A.rl]; exact hj), getD_get (by rw [A.wl]; exact hj)⟩)]
theorem Asks.augl (A : Asks rows wished C m N) : (augT rows wished).length = m := by
  unfold augT
  rw [List.length_map, List.length_zip, A.rl, A.wl]
  exact Nat.min_self m
theorem Asks.dot (A : Asks rows wished C m N) {j : Nat} (hj : j < m) (y : Nat → Int) : dotL (Row (augT rows wished) j) y = dotL (Row rows j) y + wished.getD j 0 * y C := by
  rw [A.aug hj, dot_app, A.wid j hj]
  show _ + (wished.getD j 0 * y (C + 0) + 0) = _
  rw [Int.add_zero, Nat.add_zero]
def Sol (rows : List (List Int)) (wished : List Int) (C : Nat) : Prop := ∃ y, Ker (augT rows wished) y ∧ y C ≠ 0
theorem Few.to {T T2 : List (List Int)} (h : Few T C) (hl : T2.length = T.length) (e : ∀ j, j < T.length → ∀ c, c < C → (Row T2 j).getD c 0 = (Row T j).getD c 0) : Few T2 C := by
  obtain ⟨Z, z3, hz⟩ := h
  exact ⟨Z, z3, fun j hj hn c hc => by rw [hl] at hj; rw [e j hj c hc]; exact hz j hj hn c hc⟩
theorem app_get {r s : List Int} {c : Nat} (h : c < r.length) : (r ++ s).getD c 0 = r.getD c 0 := by
  rw [List.getD_eq_getElem?_getD, List.getElem?_append_left h, List.getD_eq_getElem?_getD]
theorem Asks.fewA (A : Asks rows wished C m N) : Few (augT rows wished) C := A.few.to (by rw [A.augl, A.rl]) fun j hj c hc => by
  rw [A.rl] at hj
  rw [A.aug hj, app_get (by rw [A.wid j hj]; exact hc)]
theorem LI.none {T0 T : List (List Int)} {W N : Nat} {leads : List Nat} (L : LI T0 W N C T leads) (hW : W = C + 1) {j : Nat} (h1 : leads.length ≤ j) (h2 : j < T.length) (nz : (Row T j).getD C 0 ≠ 0) {y : Nat → Int} (hy : Ker T0 y) : y C = 0 := by
  have d := (L.ker y).mpr hy j h2
  have w := L.wid j h2
  rw [dot_one (q := C) fun c hc => ?_] at d
  · exact mul_zero_l nz d
  · by_cases c1 : c < C
    · rw [L.low j h1 h2 c c1, Int.zero_mul]
    · rw [List.getD_eq_getElem?_getD, List.getElem?_eq_none (by omega)]
      exact Int.zero_mul _
theorem bd_one {N : Nat} (h : 1 ≤ N) : Bd N (1 : Int) ∧ Bd N (0 : Int) := ⟨Nat.lt_of_lt_of_le (show (1 : Int).natAbs < 2 ^ 1 by decide) (Nat.pow_le_pow_right (by decide) h), Nat.two_pow_pos N⟩
/-- solY, and 0 behind -/
def solV (T : List (List Int)) (leads : List Nat) (C c : Nat) : Int := if c ≤ C then solY T leads C c else 0
theorem solV_C {T : List (List Int)} {leads : List Nat} : solV T leads C C = -prodL (pivL T leads) leads.length := by
  unfold solV
  rw [if_pos (Nat.le_refl C)]
  exact if_pos rfl
theorem LI.ker0 {T0 T : List (List Int)} {W N : Nat} {leads : List Nat} (L : LI T0 W N C T leads) (z : ∀ j, leads.length ≤ j → j < T.length → (Row T j).getD C 0 = 0) : Ker T0 (solV T leads C) := L.sol z _ (fun c hc => by unfold solV; rw [if_pos hc]) fun c hc => by unfold solV; rw [if_neg (by omega)]
theorem LI.prod {T0 T : List (List Int)} {W N : Nat} {leads : List Nat} (L : LI T0 W N C T leads) : prodL (pivL T leads) leads.length ≠ 0 := prodL_ne fun i hi => L.piv i hi
end
section
variable {rows : List (List Int)} {wished : List Int} {C m N : Nat}
/-- the marks of a row -/
def marksF (m : Nat) (j : Int) : List Int := ((intsF 0 m).map fun x5 => (if (decide (j = x5)) then 1 else 0 : Int))
theorem marks_len {m : Nat} {j : Int} : (marksF m j).length = m := by unfold marksF; rw [List.length_map, intsF_len]
theorem marks_get {m j k : Nat} : (marksF m (j : Int)).getD k 0 = if k < m ∧ k = j then 1 else 0 := by
  unfold marksF
  rw [List.getD_eq_getElem?_getD, List.getElem?_map]
  by_cases h : k < m
  · have e : (intsF 0 m)[k]? = some (k : Int) := by
      unfold intsF
      rw [List.getElem?_map, List.getElem?_range h]
      show some ((0 : Int) + k) = _
      rw [Int.zero_add]
    rw [e]
    show (if decide ((j : Int) = (k : Int)) = true then (1 : Int) else 0) = _
    by_cases q : k = j
    · rw [if_pos (decide_eq_true (by omega)), if_pos ⟨h, q⟩]
    · rw [if_neg (by rw [decide_eq_false (by omega)]; exact Bool.false_ne_true), if_neg (fun z => q z.2)]
  · rw [List.getElem?_eq_none (by rw [intsF_len]; omega), if_neg (fun z => h z.1)]
    rfl
def barF (wished : List Int) (m : Nat) (x : Int × List Int) : List Int := x.2 ++ (wished.getD x.1.toNat 0 :: (marksF m x.1 ++ []))
def barT (rows : List (List Int)) (wished : List Int) (m : Nat) : List (List Int) := (enL rows).map (barF wished m)
theorem Asks.bar (A : Asks rows wished C m N) {j : Nat} (hj : j < m) : Row (barT rows wished m) j = Row rows j ++ (wished.getD j 0 :: marksF m (j : Int)) := by
  unfold barT
  rw [row_map (x := ((j : Int), Row rows j)) (by rw [enL_get, row_get (by rw [A.rl]; exact hj)]; rfl)]
  unfold barF
  rw [Int.toNat_natCast, List.append_nil]
theorem Asks.barl (A : Asks rows wished C m N) : (barT rows wished m).length = m := by
  unfold barT
  rw [List.length_map, enL_len, A.rl]
theorem Asks.bdot (A : Asks rows wished C m N) {j : Nat} (hj : j < m) (y : Nat → Int) : dotL (Row (barT rows wished m) j) y = dotL (Row rows j) y + wished.getD j 0 * y C + y (C + 1 + j) := by
  rw [A.bar hj, dot_app, A.wid j hj]
  show dotL (Row rows j) y + (wished.getD j 0 * y (C + 0) + dotL (marksF m (j : Int)) fun c => y (C + (c + 1))) = _
  have h1 : dotL (marksF m (j : Int)) (fun c => y (C + (c + 1))) = y (C + 1 + j) := by
    rw [dot_one (q := j) fun c hc => by rw [marks_get, if_neg (fun q => hc q.2), Int.zero_mul], marks_get, if_pos ⟨hj, rfl⟩, Int.one_mul]
    congr 1
    omega
  rw [h1, Nat.add_zero]
  omega
theorem Asks.barw (A : Asks rows wished C m N) : ∀ j, j < (barT rows wished m).length → (Row (barT rows wished m) j).length = C + 1 + m := fun j hj => by
  rw [A.barl] at hj
  rw [A.bar hj, List.length_append, List.length_cons, marks_len, A.wid j hj]
  omega
theorem Asks.barb (A : Asks rows wished C m N) : ∀ j, j < (barT rows wished m).length → BdR N (Row (barT rows wished m) j) := fun j hj => by
  rw [A.barl] at hj
  rw [A.bar hj]
  intro n hn
  rcases List.mem_append.mp hn with h | h
  · exact A.bd j hj n h
  · rcases List.mem_cons.mp h with h | h
    · rw [h]; exact A.wb.at j
    · unfold marksF at h
      obtain ⟨x, _, e⟩ := List.mem_map.mp h
      rw [← e]
      split
      · exact (bd_one A.n1).1
      · exact (bd_one A.n1).2
theorem Asks.fewB (A : Asks rows wished C m N) : Few (barT rows wished m) C := A.few.to (by rw [A.barl, A.rl]) fun j hj c hc => by
  rw [A.rl] at hj
  rw [A.bar hj, app_get (by rw [A.wid j hj]; exact hc)]
theorem Row.at {T : List (List Int)} {j c : Nat} (h : c < (Row T j).length) : atI (Row T j) (c : Int) = some ((Row T j).getD c 0) := atR h
theorem barred_ok (A : Asks rows wished C m N) (hs : ¬ Sol rows wished C) {Q : List (Int × Int) → Prop} {X : HE → Prop}
    (h : ∀ (D : Int) (y : Nat → Int) (ws : List (Int × Int)), D ≠ 0 → ws.length = m → RatsOf D y ws → (∀ c, c < C → dotL (rows.map fun r => r.getD c 0) y = 0) → dotL wished y = D → Q ws) : m_barred rows wished (C : Int) Q X := by
  unfold m_barred
  have hb : big = 100000 := rfl
  have m40 := A.m40
  have c40 := A.c40
  have rl := A.rl
  refine forD_inv (fun pre st => st = pre.map (barF wished m)) rfl (fun pre x post st nx ex hi hnx => ?_) fun st hi => ?_
  · subst hi
    have hx : (enL rows)[pre.length]? = some x := by rw [ex, List.getElem?_append_right (Nat.le_refl _), Nat.sub_self]; rfl
    rw [enL_get] at hx
    obtain ⟨r, hr, rfl⟩ := Option.map_eq_some_iff.mp hx
    have pm : pre.length < m := by rw [← rl]; exact (List.getElem?_eq_some_iff.mp hr).1
    have er : Row rows pre.length = r := by unfold Row; rw [List.getD_eq_getElem?_getD, hr]; rfl
    intro mk em
    have em : mk = marksF m (pre.length : Int) := by rw [em, rl, Int.toNat_natCast]; rfl
    refine ⟨_, atR (by rw [A.wl]; exact pm), ?_, by rw [List.length_map]; omega, hnx _ ?_⟩
    · rw [List.length_append, List.length_cons, List.append_nil, em, marks_len, ← er, A.wid _ pm]
      omega
    · rw [List.map_append]
      show _ = _ ++ [barF wished m ((pre.length : Int), r)]
      unfold barF
      rw [em, Int.toNat_natCast]
  have hi : st = barT rows wished m := hi
  subst hi
  refine lead_ok3 (W := C + 1 + m) (N := N) (by omega) (by omega) (by rw [A.barl]; omega) A.barw A.barb A.bits A.fewB fun T leads L => ?_
  have lT : T.length = m := L.len.trans A.barl
  try dsimp only
  rw [List.length_map, cutX_drop]
  have pk : ∀ j, leads.length ≤ j → j < T.length → (Row T j).getD C 0 ≠ 0 → ∃ D : Int, ∃ y : Nat → Int, D = (Row T j).getD C 0 ∧ (∀ k, k < m → y k = (Row T j).getD (C + 1 + k) 0) ∧ (∀ c, c < C → dotL (rows.map fun r => r.getD c 0) y = 0) ∧ dotL wished y = D := fun j h1 h2 nz => by
    have w := L.wid j h2
    have sp : ∀ Y : Nat → Int, Ker (barT rows wished m) Y → (Row T j).getD C 0 * Y C + dotL ((Row T j).drop (C + 1)) (fun c => Y (C + 1 + c)) = 0 := fun Y hY => by
      have d := (L.ker Y).mpr hY j h2
      rw [dot_split (C := C) (by omega), dot_zero (r := (Row T j).take C) (y := Y) fun c => ?_] at d
      · omega
      · rw [take_getD]
        split
        · rename_i q
          rw [L.low j h1 h2 c q, Int.zero_mul]
        · exact Int.zero_mul _
    have dl : ((Row T j).drop (C + 1)).length = m := by rw [List.length_drop, w]; omega
    refine ⟨_, fun k => ((Row T j).drop (C + 1)).getD k 0, rfl, fun k _ => drop_getD, fun c hc => ?_, ?_⟩
    · have kr : Ker (barT rows wished m) (fun i => if i = c then 1 else if i ≤ C then 0 else -(rows.map fun r => r.getD c 0).getD (i - (C + 1)) 0) := fun i hi => by
        rw [A.barl] at hi
        rw [A.bdot hi, dot_one (q := c) fun i hc' => ?_]
        · try dsimp only
          rw [if_pos rfl, if_neg (by omega), if_pos (by omega), if_neg (by omega), if_neg (by omega), show C + 1 + i - (C + 1) = i by omega]
          have : (rows.map fun r => r.getD c 0).getD i 0 = (Row rows i).getD c 0 := by
            rw [List.getD_eq_getElem?_getD, List.getElem?_map, row_get (by omega)]
            rfl
          rw [this]
          omega
        · try dsimp only
          rw [if_neg hc']
          by_cases q : i ≤ C
          · rw [if_pos q, Int.mul_zero]
          · rw [List.getD_eq_getElem?_getD, List.getElem?_eq_none (by rw [A.wid _ (by assumption)]; omega)]
            exact Int.zero_mul _
      have s := sp _ kr
      rw [show (fun k => (fun i => if i = c then (1 : Int) else if i ≤ C then 0 else -(rows.map fun r => r.getD c 0).getD (i - (C + 1)) 0) (C + 1 + k)) = fun k => -(rows.map fun r => r.getD c 0).getD k 0 from funext fun k => by
        try dsimp only
        rw [if_neg (by omega), if_neg (by omega), show C + 1 + k - (C + 1) = k by omega], dot_neg] at s
      try dsimp only at s
      rw [if_neg (by omega), if_pos (Nat.le_refl C), Int.mul_zero] at s
      rw [dot_comm (by rw [List.length_map, dl]; exact rl)]
      omega
    · have kr : Ker (barT rows wished m) (fun i => if i < C then 0 else if i = C then 1 else -wished.getD (i - (C + 1)) 0) := fun i hi => by
        rw [A.barl] at hi
        rw [A.bdot hi, dot_zero (r := Row rows i) fun i' => ?_]
        · try dsimp only
          rw [if_neg (by omega), if_pos rfl, if_neg (by omega), if_neg (by omega), show C + 1 + i - (C + 1) = i by omega]
          omega
        · try dsimp only
          by_cases q : i' < C
          · rw [if_pos q, Int.mul_zero]
          · rw [List.getD_eq_getElem?_getD, List.getElem?_eq_none (by rw [A.wid _ hi]; omega)]
            exact Int.zero_mul _
      have s := sp _ kr
      rw [show (fun k => (fun i => if i < C then (0 : Int) else if i = C then 1 else -wished.getD (i - (C + 1)) 0) (C + 1 + k)) = fun k => -wished.getD k 0 from funext fun k => by
        try dsimp only
        rw [if_neg (by omega), if_neg (by omega), show C + 1 + k - (C + 1) = k by omega], dot_neg] at s
      try dsimp only at s
      rw [if_neg (by omega), if_pos rfl, Int.mul_one] at s
      rw [dot_comm (by rw [dl]; exact A.wl)]
      omega
  refine forD_find (p := fun r : List Int => !decide (r.getD C 0 = 0)) (E := fun r => mapD (cutX r (some ((C : Int) + (1 : Int))) none) [] (fun x17 k18 => ∃ v22, atI r (C : Int) = some v22 ∧ m_Ratio___init__ x17 v22 (fun v23 => k18 v23) noX) fun ys19 => Q ys19) (fun r hr nx h1 h2 => ?_) (fun r hr => ?_) (fun hn => ?_)
  · obtain ⟨j, j1, j2, rfl⟩ := row_mem hr
    refine ⟨_, atR (by rw [L.wid j j2]; omega), ?_⟩
    exact ⟨fun e => h1 e, fun e => h2 e⟩
  · obtain ⟨j, j1, j2, rfl⟩ := row_mem (List.mem_of_find?_eq_some hr)
    have nz : (Row T j).getD C 0 ≠ 0 := by
      have := List.find?_some hr
      simpa using this
    obtain ⟨D, y, eD, ey, y1, y2⟩ := pk j j1 j2 nz
    have w := L.wid j j2
    have bj := L.bd j j2
    have bD : Bd 800 D := by rw [eD]; exact (bj.at C).up (Nat.le_refl 800)
    refine mapD_ok (fun x => ratD x D) (fun x hx k hk => ⟨_, atR (by omega), ?_⟩) ?_
    · rw [← eD]
      exact rat_ok (by rw [eD]; exact nz) (bD.sm (Nat.le_refl _)) hk
    rw [List.nil_append, show cutX (Row T j) (some ((C : Int) + (1 : Int))) none = (Row T j).drop (C + 1) from cutX_drop _ (C + 1)]
    have D0 : D ≠ 0 := by rw [eD]; exact nz
    refine h D y _ D0 (by rw [List.length_map, List.length_drop, w]; omega) (fun c hc => ?_) y1 y2
    rw [List.length_map, List.length_drop, w] at hc
    have ec : (((Row T j).drop (C + 1)).map fun x => ratD x D).getD c (0, 1) = ratD (y c) D := by
      rw [List.getD_eq_getElem?_getD, List.getElem?_map, List.getElem?_drop, ey c (by omega), List.getD_eq_getElem?_getD, List.getElem?_eq_getElem (by omega)]
      rfl
    have by_ : Bd 800 (y c) := by rw [ey c (by omega)]; exact (bj.at _).up (Nat.le_refl 800)
    rw [ec]
    exact ⟨rat_low D0, rat_val D0, rat_b1 D0 by_, rat_b2 D0 bD⟩
  · exfalso
    have z : ∀ j, leads.length ≤ j → j < T.length → (Row T j).getD C 0 = 0 := fun j h1 h2 => by
      have := List.find?_eq_none.mp hn _ (mem_row h1 h2)
      simpa using this
    refine hs ⟨solV T leads C, fun j hj => ?_, ?_⟩
    · rw [A.augl] at hj
      have k := L.ker0 z j (by rw [A.barl]; exact hj)
      rw [A.bdot hj] at k
      rw [A.dot hj]
      have e0 : solV T leads C (C + 1 + j) = 0 := by unfold solV; rw [if_neg (by omega)]
      omega
    · rw [solV_C]
      have := L.prod
      omega
end
section
variable {rows : List (List Int)} {wished : List Int} {C m N : Nat}
/-- the ratio lists that are set -/
theorem setP {l : List (Int × Int)} {i j : Nat} {v : Int × Int} (h : i < l.length) : (l.set i v).getD j (0, 1) = if i = j then v else l.getD j (0, 1) := by
  rw [List.getD_eq_getElem?_getD, List.getElem?_set, List.getD_eq_getElem?_getD]
  by_cases e : i = j
  · rw [if_pos e, if_pos h, if_pos e]; rfl
  · rw [if_neg e, if_neg e]
theorem joinG {S : Type} {f : (S → Prop) → Prop} {k : S → Prop} {v : S} (hf : ∀ k : S → Prop, k v → f k) (h : k v) : joinD f k := hf k h
theorem ixNs {n j : Nat} (h : j < n) : ixN n (j : Int) = some j := by
  unfold ixN
  rw [if_pos (by omega), if_pos (by omega)]
  rfl
/-- the ranks of the rows without and with the wished numbers -/
def RkE (T : List (List Int)) (C : Nat) : Prop := ∃ r, Rk (InT T) C r ∧ Rk (InT T) (C + 1) r
def RkN (T : List (List Int)) (C : Nat) : Prop := ∃ r, Rk (InT T) C r ∧ Rk (InT T) (C + 1) (r + 1)
theorem solved_ok (A : Asks rows wished C m N) (h0 : m = 0 → C = 0) {Q : Str × List (Int × Int) → Prop} {X : HE → Prop}
    (hS : ∀ (D : Int) (y : Nat → Int) (rs : List (Int × Int)), D ≠ 0 → rs.length = C → RatsOf D y rs → (∀ j, j < m → dotL (Row rows j) y = wished.getD j 0 * D) → RkE (augT rows wished) C → Q ("SOLVED", rs))
    (hB : ∀ (D : Int) (y : Nat → Int) (ws : List (Int × Int)), RkN (augT rows wished) C → D ≠ 0 → ws.length = m → RatsOf D y ws → (∀ c, c < C → dotL (rows.map fun r => r.getD c 0) y = 0) → dotL wished y = D → Q ("BARRED", ws)) : m_solved rows wished Q X := by
  unfold m_solved
  have hb : big = 100000 := rfl
  have m40 := A.m40
  have c40 := A.c40
  have rl := A.rl
  have N800 : 800 ≤ 800 := Nat.le_refl 800
  have go : ∀ {k : Int → Prop}, k (C : Int) → ifD (!rows.isEmpty) (∃ v3, atI rows (0 : Int) = some v3 ∧ k (v3.length : Int)) (k 0) := fun {k} hk => by
    refine ⟨fun e => ?_, fun e => ?_⟩
    · have m0 : 0 < m := by
        rw [← rl]
        cases rows with
        | nil => cases e
        | cons _ _ => exact Nat.succ_pos _
      have r0 : 0 < rows.length := by omega
      refine ⟨Row rows 0, atRow r0, ?_⟩
      rw [A.wid 0 m0]
      exact hk
    · have m0 : m = 0 := by
        rw [← rl]
        cases rows with
        | nil => rfl
        | cons _ _ => cases e
      have := h0 m0
      rw [this] at hk
      exact hk
  refine joinG (v := (C : Int)) (fun k hk => go hk) ?_
  refine mapD_ok (fun x : List Int × Int => x.1 ++ (x.2 :: [])) (fun x hx k hk => ⟨?_, hk⟩) ?_
  · obtain ⟨j, hj, e⟩ := List.mem_iff_getElem.mp hx
    have hj2 : j < m := by rw [List.length_zip, rl, A.wl, Nat.min_self] at hj; exact hj
    have e2 : x.1 = Row rows j := by
      rw [← e, List.getElem_zip]
      unfold Row
      rw [List.getD_eq_getElem?_getD, List.getElem?_eq_getElem (by omega)]
      rfl
    rw [List.length_append, e2, A.wid j hj2]
    show C + 1 ≤ _
    omega
  rw [List.nil_append]
  have wd : ∀ j, j < (augT rows wished).length → (Row (augT rows wished) j).length = C + 1 := fun j hj => by
    rw [A.augl] at hj
    rw [A.aug hj, List.length_append, A.wid j hj]
    rfl
  have bd : ∀ j, j < (augT rows wished).length → BdR N (Row (augT rows wished) j) := fun j hj => by
    rw [A.augl] at hj
    rw [A.aug hj]
    intro n hn
    rcases List.mem_append.mp hn with h | h
    · exact A.bd j hj n h
    · rw [List.mem_singleton.mp h]
      exact A.wb.at j
  refine lead_ok3 (T0 := augT rows wished) (W := C + 1) (N := N) (by omega) (by omega) (by rw [A.augl]; omega) wd bd A.bits A.fewA fun T leads L => ?_
  have lT : T.length = m := L.len.trans A.augl
  show mapD (cutX T (some ((zn leads).length : Int)) none) [] _ _
  rw [show (zn leads).length = leads.length from List.length_map .., cutX_drop]
  refine mapD_ok (fun r : List Int => !decide (r.getD C 0 = 0)) (fun r hr k hk => ?_) ?_
  · obtain ⟨j, j1, j2, rfl⟩ := row_mem hr
    exact ⟨_, atR (by rw [L.wid j j2]; omega), hk⟩
  rw [List.nil_append]
  refine ⟨fun e => ?_, fun e => ?_⟩
  · obtain ⟨b, hb1, hb2⟩ := List.any_eq_true.mp e
    obtain ⟨r, hr, rfl⟩ := List.mem_map.mp hb1
    obtain ⟨j, j1, j2, rfl⟩ := row_mem hr
    have nz : (Row T j).getD C 0 ≠ 0 := by simpa using hb2
    have ns : ¬ Sol rows wished C := fun ⟨y, ky, yC⟩ => yC (L.none rfl j1 j2 nz ky)
    exact barred_ok A ns fun D y ws h1 h2 h3 h4 h5 => hB D y ws ⟨_, L.rk (Nat.le_succ C), L.rkN (Nat.le_refl _) j1 j2 nz⟩ h1 h2 h3 h4 h5
  have z : ∀ j, leads.length ≤ j → j < T.length → (Row T j).getD C 0 = 0 := fun j h1 h2 => by
    have := List.any_eq_false.mp e (!decide ((Row T j).getD C 0 = 0)) (List.mem_map.mpr ⟨_, mem_row h1 h2, rfl⟩)
    simpa using this
  refine rat_ok (by decide) ((bd_one (Nat.le_refl 1)).1.sm (by decide)) ?_
  rw [rat_one]
  have ln : leads.length ≤ m := by rw [← lT]; exact L.ll
  have lx : ∀ i, i < leads.length → leads.getD i 0 < C := fun i hi => L.lx _ (getD_memN hi)
  refine ⟨⟨by omega, by omega⟩, ?_⟩
  rw [Int.toNat_natCast]
  refine forD_inv (fun pre s => s.length = C ∧ (∀ i, i < pre.length → s.getD (leads.getD i 0) (0, 1) = ratD ((Row T i).getD C 0) ((Row T i).getD (leads.getD i 0) 0)) ∧ ∀ c, (∀ i, i < pre.length → leads.getD i 0 ≠ c) → s.getD c (0, 1) = (0, 1))
    ⟨List.length_replicate, (fun i hi => by cases hi), fun c _ => ?_⟩ (fun pre x post s nx ex hi hnx => ?_) fun s hi => ?_
  · rw [List.getD_eq_getElem?_getD, List.getElem?_replicate]
    split <;> rfl
  · obtain ⟨i1, i2, i3⟩ := hi
    have hx : (enL (zn leads))[pre.length]? = some x := by rw [ex, List.getElem?_append_right (Nat.le_refl _), Nat.sub_self]; rfl
    rw [enL_get] at hx
    obtain ⟨c, hc, rfl⟩ := Option.map_eq_some_iff.mp hx
    have pl : pre.length < leads.length := by
      have := (List.getElem?_eq_some_iff.mp hc).1
      rw [show (zn leads).length = leads.length from List.length_map ..] at this
      exact this
    have ec : c = ((leads.getD pre.length 0 : Nat) : Int) := by
      have q : (zn leads)[pre.length]? = some ((leads.getD pre.length 0 : Nat) : Int) := by
        show (leads.map _)[pre.length]? = _
        rw [List.getElem?_map, List.getElem?_eq_getElem pl, List.getD_eq_getElem?_getD, List.getElem?_eq_getElem pl]
        rfl
      rw [q] at hc
      exact (Option.some.inj hc).symm
    subst ec
    have pT : pre.length < T.length := by omega
    have lc := lx _ pl
    have wT := L.wid _ pT
    have b800 : BdR 800 (Row T pre.length) := (L.bd _ pT).up N800
    have wC : C < (Row T pre.length).length := by omega
    have wl : leads.getD pre.length 0 < (Row T pre.length).length := by omega
    refine ⟨_, atRow pT, _, atR wC, _, atRow pT, _, atR wl, ?_⟩
    refine rat_ok (L.piv _ pl) ((b800.at _).sm (Nat.le_refl _)) ⟨_, ixNs (by rw [i1]; exact lc), hnx _ ?_⟩
    have pe : (pre ++ [((pre.length : Int), ((leads.getD pre.length 0 : Nat) : Int))]).length = pre.length + 1 := by rw [List.length_append]; rfl
    rw [pe]
    refine ⟨by rw [List.length_set]; exact i1, fun i hi => ?_, fun c hc => ?_⟩
    · rw [setP (by omega)]
      by_cases q : i = pre.length
      · rw [q, if_pos rfl]
      · rw [if_neg fun e2 => q (getD_inj L.nd (by omega) pl e2.symm)]
        exact i2 i (by omega)
    · rw [setP (by omega), if_neg (hc _ (Nat.lt_succ_self _))]
      exact i3 c fun i hi => hc i (by omega)
  · obtain ⟨i1, i2, i3⟩ := hi
    rw [show (enL (zn leads)).length = leads.length by rw [enL_len]; exact List.length_map ..] at i2 i3
    have kr := L.ker0 z
    have D0 := L.prod
    refine hS (prodL (pivL T leads) leads.length) (solV T leads C) s D0 i1 (fun c hc => ?_) (fun j hj => ?_) ⟨_, L.rk (Nat.le_succ C), L.rkE (Nat.le_refl _) z⟩
    · rw [i1] at hc
      by_cases q : ∃ i, i < leads.length ∧ leads.getD i 0 = c
      · obtain ⟨i, hi, rfl⟩ := q
        have iT : i < T.length := by omega
        have b800 : BdR 800 (Row T i) := (L.bd _ iT).up N800
        have p0 := L.piv i hi
        rw [i2 i hi]
        have dv : pivL T leads i * (prodL (pivL T leads) leads.length / pivL T leads i) = prodL (pivL T leads) leads.length := Int.mul_ediv_cancel' (prodL_dvd hi)
        refine ⟨rat_low p0, ?_, rat_b1 p0 (b800.at _), rat_b2 p0 (b800.at _)⟩
        have e2 : solV T leads C (leads.getD i 0) = (Row T i).getD C 0 * (prodL (pivL T leads) leads.length / pivL T leads i) := by
          unfold solV
          rw [if_pos (by omega)]
          exact solY_lead L.nd L.lx hi
        rw [e2]
        generalize prodL (pivL T leads) leads.length / pivL T leads i = q at dv ⊢
        rw [← dv]
        have rv := rat_val (t := (Row T i).getD C 0) p0
        show _ * ((Row T i).getD (leads.getD i 0) 0 * q) = _
        rw [← Int.mul_assoc, rv, Int.mul_assoc, Int.mul_assoc, Int.mul_comm q]
      · rw [i3 c fun i hi e2 => q ⟨i, hi, e2⟩]
        have e2 : solV T leads C c = 0 := by
          unfold solV
          rw [if_pos (by omega)]
          exact solY_none (by omega) fun i hi e2 => q ⟨i, hi, e2⟩
        rw [e2]
        exact ⟨⟨by decide, by decide⟩, by rw [Int.zero_mul, Int.zero_mul], (bd_one (by decide)).2, (bd_one (by decide)).1⟩
    · have k := kr j (by rw [A.augl]; exact hj)
      rw [A.dot hj, solV_C, Int.mul_neg] at k
      omega
end
section
variable {rows : List (List Int)} {wished : List Int} {C m N : Nat}
/-- small numbers -/
def Sk (B : Nat) (r : List Int) : Prop := ∀ n ∈ r, n.natAbs ≤ B
theorem Sk.up {B B' : Nat} {r : List Int} (h : Sk B r) (e : B ≤ B') : Sk B' r := fun n hn => Nat.le_trans (h n hn) e
theorem Sk.at {B : Nat} {r : List Int} (h : Sk B r) (c : Nat) : (r.getD c 0).natAbs ≤ B := by
  rw [List.getD_eq_getElem?_getD]
  cases q : r[c]? with
  | none => exact Nat.zero_le _
  | some v => exact h v (List.mem_of_getElem? q)
theorem Sk.bd {r : List Int} (h : Sk 1000000 r) : BdR 20 r := fun n hn => Nat.lt_of_le_of_lt (h n hn) (by decide)
/-- small rows of one width -/
structure Dr (rows : List (List Int)) (wished : List Int) (C : Nat) : Prop where
  wl : wished.length = rows.length
  wid : ∀ r ∈ rows, r.length = C
  sm : ∀ r ∈ rows, Sk 1000000 r
  sw : Sk 1000000 wished
  few : Few rows C
theorem row_in {T : List (List Int)} {j : Nat} (h : j < T.length) : Row T j ∈ T := by
  unfold Row
  rw [List.getD_eq_getElem?_getD, List.getElem?_eq_getElem h]
  exact List.getElem_mem h
theorem Dr.asks (d : Dr rows wished C) (h : rows.length ≤ 40) (hC : C ≤ 40) : Asks rows wished C rows.length 20 :=
  ⟨rfl, d.wl, by omega, by omega, fun j hj => d.wid _ (row_in hj), fun j hj => (d.sm _ (row_in hj)).bd, d.sw.bd, by decide, by decide, d.few⟩
theorem orDf {c : Bool} {f : (Bool → Prop) → Prop} {k : Bool → Prop} (e : c = false) (h : f k) : orD c f k := ⟨(fun q => by rw [e] at q; cases q), fun _ => h⟩
theorem zip_mem {p : List Int × Int} (h : p ∈ rows.zip wished) : p.1 ∈ rows ∧ p.2 ∈ wished := List.of_mem_zip h
theorem rats_all {D : Int} {y : Nat → Int} {rs : List (Int × Int)} (h : RatsOf D y rs) : ∀ r ∈ rs, Low r ∧ Sm r.2 := fun r hr => by
  obtain ⟨j, hj, e⟩ := List.mem_iff_getElem.mp hr
  have := h j hj
  rw [List.getD_eq_getElem?_getD, List.getElem?_eq_getElem hj] at this
  rw [← e]
  exact ⟨this.1, this.2.2.2.sm (Nat.le_refl _)⟩
theorem tells_solved {D : Int} {y : Nat → Int} {rs : List (Int × Int)} (d : Dr rows wished C) (hl : rows.length ≤ 40) (hC : C ≤ 40) (D0 : D ≠ 0) (rl : rs.length = C) (ro : RatsOf D y rs) (e : ∀ j, j < rows.length → dotL (Row rows j) y = wished.getD j 0 * D) {Q : Bool → Prop} {X : HE → Prop} (hq : Q true) : m__law_solved ("SOLVED", rs) rows wished (C : Int) Q X := by
  unfold m__law_solved
  refine orDf rfl (orDf rfl (orDf (by rw [decide_eq_true rfl]; rfl) ?_))
  refine ratios_ok (by rw [rl]) (rats_all ro) (ifD_f rfl ?_)
  refine forD_inv (fun _ _ => True) trivial (fun pre x post st nx ex _ hnx => ?_) fun _ _ => hq
  obtain ⟨e1, e2⟩ := intsF_sp ex
  subst e1
  rw [Int.toNat_natCast] at e2
  have w := d.wid _ (row_in e2)
  refine ⟨_, atRow e2, _, atR (by rw [d.wl]; exact e2), ?_⟩
  refine gives_ok (by rw [w, rl]) (by omega) D0 ro ((d.sm _ (row_in e2)).bd.up (by decide)) ((d.sw.bd.at _).up (by decide)) (e _ e2) ?_
  exact ifD_f rfl (hnx _ trivial)
theorem tells_barred {D : Int} {y : Nat → Int} {ws : List (Int × Int)} (d : Dr rows wished C) (hl : rows.length ≤ 40) (hC : C ≤ 40) (D0 : D ≠ 0) (rl : ws.length = rows.length) (ro : RatsOf D y ws) (e1 : ∀ c, c < C → dotL (rows.map fun r => r.getD c 0) y = 0) (e2 : dotL wished y = D) {Q : Bool → Prop} {X : HE → Prop} (hq : Q true) : m__law_barred ("BARRED", ws) rows wished (C : Int) Q X := by
  unfold m__law_barred
  refine orDf rfl (orDf rfl (orDf (by rw [decide_eq_true rfl]; rfl) ?_))
  refine ratios_ok (by rw [rl]) (rats_all ro) (ifD_f rfl ⟨⟨by omega, by omega⟩, ?_⟩)
  refine forD_inv (fun _ _ => True) trivial (fun pre x post st nx ex _ hnx => ?_) fun _ _ => ?_
  · obtain ⟨h1, h2⟩ := intsF_sp ex
    subst h1
    rw [Int.toNat_natCast] at h2
    refine mapD_ok (fun r : List Int => r.getD pre.length 0) (fun r hr k hk => ⟨_, atR (by rw [d.wid r hr]; exact h2), hk⟩) ?_
    rw [List.nil_append]
    refine gives_ok (by rw [List.length_map, rl]) (by omega) D0 ro (fun n hn => ?_) (bd_one (by decide)).2 (by rw [e1 _ h2, Int.zero_mul]) ?_
    · obtain ⟨r, hr, e⟩ := List.mem_map.mp hn
      rw [← e]
      exact ((d.sm r hr).bd.at _).up (by decide)
    · exact ifD_f rfl (hnx _ trivial)
  · exact gives_ok (by rw [d.wl, rl]) (by omega) D0 ro (d.sw.bd.up (by decide)) (bd_one (by decide)).1 (by rw [e2, Int.one_mul]) hq
theorem Sol.mem (A : Asks rows wished C m N) (h : Sol rows wished C) : ∃ (y : Nat → Int) (z : Int), z ≠ 0 ∧ ∀ p ∈ rows.zip wished, dotL p.1 y + p.2 * z = 0 := by
  obtain ⟨y, k, yC⟩ := h
  refine ⟨y, y C, yC, fun p hp => ?_⟩
  obtain ⟨j, hj, e⟩ := List.mem_iff_getElem.mp hp
  rw [List.length_zip, A.rl, A.wl, Nat.min_self] at hj
  have := k j (by rw [A.augl]; exact hj)
  rw [A.dot hj] at this
  have e1 : p.1 = Row rows j := by
    rw [← e, List.getElem_zip]
    unfold Row
    rw [List.getD_eq_getElem?_getD, List.getElem?_eq_getElem (by rw [A.rl]; exact hj)]
    rfl
  have e2 : p.2 = wished.getD j 0 := by
    rw [← e, List.getElem_zip, List.getD_eq_getElem?_getD, List.getElem?_eq_getElem (by rw [A.wl]; exact hj)]
    rfl
  rw [e1, e2]
  exact this
theorem Sol.of (A : Asks rows wished C m N) {y : Nat → Int} (h : ∀ j, j < m → dotL (Row rows j) y = wished.getD j 0) : Sol rows wished C := by
  refine ⟨fun c => if c < C then y c else -1, fun j hj => ?_, by show (if C < C then y C else -1) ≠ 0; rw [if_neg (Nat.lt_irrefl _)]; decide⟩
  rw [A.augl] at hj
  rw [A.dot hj, dot_congr (z := y) fun c hc => if_pos (by rw [A.wid j hj] at hc; exact hc), h j hj, if_neg (Nat.lt_irrefl _)]
  omega
end
section
abbrev ErL := List (Str ⊕ (Int ⊕ Bool))
def tmE (s : Str) : ErL := [.inl ("TooMany" : Str), .inl s, .inr (.inl 40), .inr (.inr true), .inr (.inr false)]
def bnE (n : Int) : ErL := [.inl ("BadNumber" : Str), .inr (.inl n), .inr (.inr true)]
def ErOk (z : ErL) : Prop := (∃ s, z = tmE s) ∨ ∃ n, z = bnE n
theorem er_eqv {z : ErL} (h : ErOk z) : PyData.eqv (EDat.enc (r := (yL (yU yS (yU zI zB)))) z) (EDat.enc (r := (yL (yU yS (yU zI zB)))) z) = true := by
  rcases h with ⟨s, e⟩ | ⟨n, e⟩
  · subst e
    show PyData.eqv (.list [.str "TooMany", .str s, .int 40, .bool true, .bool false]) (.list [.str "TooMany", .str s, .int 40, .bool true, .bool false]) = true
    simp [PyData.eqv, PyData.eqvAll]
  · subst e
    show PyData.eqv (.list [.str "BadNumber", .int n, .bool true]) (.list [.str "BadNumber", .int n, .bool true]) = true
    simp [PyData.eqv, PyData.eqvAll]
/-- a number that is not admitted -/
def badP (n : Int) : Bool := decide (n < -(1000000 : Int)) || decide (n > (1000000 : Int))
def badT (T : List (List Int)) : Option Int := T.findSome? fun r => r.find? badP
def dueF (m C : Nat) (b : Option Int) : Option ErL := if m > 40 then some (tmE "rows") else if m ≠ 0 ∧ C > 40 then some (tmE "columns") else b.map bnE
theorem due_er {m C : Nat} {b : Option Int} {e : ErL} (h : dueF m C b = some e) : ErOk e := by
  unfold dueF at h
  by_cases c1 : m > 40
  · rw [if_pos c1] at h
    exact Or.inl ⟨_, (Option.some.inj h).symm⟩
  rw [if_neg c1] at h
  by_cases c2 : m ≠ 0 ∧ C > 40
  · rw [if_pos c2] at h
    exact Or.inl ⟨_, (Option.some.inj h).symm⟩
  rw [if_neg c2] at h
  obtain ⟨n, _, e2⟩ := Option.map_eq_some_iff.mp h
  exact Or.inr ⟨n, e2.symm⟩
theorem due_rows {m C : Nat} {b : Option Int} (h : m > 40) : dueF m C b = some (tmE "rows") := if_pos h
theorem due_cols {m C : Nat} {b : Option Int} (h : m ≤ 40) (h2 : m ≠ 0) (h3 : C > 40) : dueF m C b = some (tmE "columns") := by
  unfold dueF
  rw [if_neg (by omega), if_pos ⟨h2, h3⟩]
theorem due_bad {m C : Nat} {b : Option Int} (h : m ≤ 40) (h2 : m = 0 ∨ C ≤ 40) : dueF m C b = b.map bnE := by
  unfold dueF
  rw [if_neg (by omega), if_neg (by omega)]
theorem forD_some {α β S : Type} {body : α → S → (S → Prop) → (S → Prop) → Prop} {after : S → Prop} {s : S} {f : α → Option β} {E : β → Prop} : ∀ {xs : List α}, (∀ x ∈ xs, ∀ nx : S → Prop, (∀ b, f x = some b → E b) → (f x = none → nx s) → body x s nx after) → (∀ b, xs.findSome? f = some b → E b) → (xs.findSome? f = none → after s) → forD xs s body after
  | [], _, _, h => h rfl
  | x :: xs, hb, hf, hn => by
    refine hb x (List.mem_cons_self ..) _ (fun b h => hf b ?_) fun h => forD_some (fun y hy => hb y (List.mem_cons_of_mem _ hy)) (fun y hy => hf y ?_) (fun h2 => hn ?_)
    · rw [List.findSome?_cons, h]
    · rw [List.findSome?_cons, h]; exact hy
    · rw [List.findSome?_cons, h]; exact h2
theorem row_any {r : List Int} {Q : Unit → Prop} {X : HE → Prop} (hb : ∀ n, r.find? badP = some n → X (.badNumber n)) (hq : r.find? badP = none → Q ()) : m_check_row r Q X := by
  unfold m_check_row
  refine forD_find (p := badP) (E := fun n => X (.badNumber n)) (fun x hx nx h1 h2 => ?_) hb hq
  unfold m_check_number
  exact ⟨h1, h2⟩
variable {rows : List (List Int)} {wished : List Int} {m C k : Nat}
/-- a table that is 0 but for the rows of a few places -/
structure Tab (rows : List (List Int)) (wished : List Int) (m C k : Nat) : Prop where
  rl : rows.length = m
  wl : wished.length = m
  wid : ∀ r ∈ rows, r.length = C
  few : ∃ Z : List Nat, Z.length ≤ k ∧ ∀ j, j < m → j ∉ Z → ∀ c, (Row rows j).getD c 0 = 0
theorem Tab.Few (t : Tab rows wished m C 3) {D : Nat} : Few rows D := by
  obtain ⟨Z, z3, hz⟩ := t.few
  exact ⟨Z, z3, fun j hj hn c _ => hz j (by rw [← t.rl]; exact hj) hn c⟩
theorem badR_none {r : List Int} (h : r.find? badP = none) : Sk 1000000 r := fun n hn => by
  have := List.find?_eq_none.mp h n hn
  unfold badP at this
  rw [Bool.or_eq_true, decide_eq_true_iff, decide_eq_true_iff] at this
  omega
theorem badT_none {T : List (List Int)} (h : badT T = none) : ∀ r ∈ T, Sk 1000000 r := fun r hr => badR_none (List.findSome?_eq_none_iff.mp h r hr)
theorem Tab.augl (t : Tab rows wished m C k) : (augT rows wished).length = m := by
  unfold augT
  rw [List.length_map, List.length_zip, t.rl, t.wl]
  exact Nat.min_self m
theorem Tab.aug (t : Tab rows wished m C k) {j : Nat} (hj : j < m) : Row (augT rows wished) j = Row rows j ++ [wished.getD j 0] := by
  unfold augT
  rw [row_map (x := (Row rows j, wished.getD j 0)) (List.getElem?_zip_eq_some.mpr ⟨row_get (by rw [t.rl]; exact hj), getD_get (by rw [t.wl]; exact hj)⟩)]
theorem Tab.dr (t : Tab rows wished m C 3) (h : badT (augT rows wished) = none) : Dr rows wished C := by
  have key : ∀ j, j < m → Sk 1000000 (Row rows j ++ [wished.getD j 0]) := fun j hj => by
    rw [← t.aug hj]
    exact badT_none h _ (row_in (by rw [t.augl]; exact hj))
  refine ⟨by rw [t.wl, t.rl], t.wid, fun r hr => ?_, fun n hn => ?_, t.Few⟩
  · obtain ⟨j, hj, e⟩ := List.mem_iff_getElem.mp hr
    have er : Row rows j = r := by
      unfold Row
      rw [List.getD_eq_getElem?_getD, List.getElem?_eq_getElem hj, ← e]
      rfl
    exact fun n hn => key j (by rw [← t.rl]; exact hj) n (List.mem_append_left _ (by rw [er]; exact hn))
  · obtain ⟨j, hj, e⟩ := List.mem_iff_getElem.mp hn
    have er : wished.getD j 0 = n := by
      rw [List.getD_eq_getElem?_getD, List.getElem?_eq_getElem hj, ← e]
      rfl
    exact key j (by rw [← t.wl]; exact hj) n (List.mem_append_right _ (by rw [er]; exact List.mem_singleton.mpr rfl))
theorem size_any (t : Tab rows wished m C k) {Q : Unit → Prop} {X : HE → Prop} (h1 : m > 40 → X (.tooMany "rows" 40)) (h2 : m ≤ 40 → m ≠ 0 → C > 40 → X (.tooMany "columns" 40)) (hq : m ≤ 40 → (m = 0 ∨ C ≤ 40) → Q ()) : m_check_size rows Q X := by
  unfold m_check_size
  have rl := t.rl
  by_cases c1 : m > 40
  · exact ifD_t (decide_eq_true (by omega)) (h1 c1)
  refine ifD_f (decide_eq_false (by omega)) ⟨fun e => ?_, fun e => ifD_f rfl (hq (by omega) (Or.inl ?_))⟩
  · have m0 : m ≠ 0 := fun q => by
      cases rows with
      | nil => cases e
      | cons r l => rw [q] at rl; cases rl
    have r0 : 0 < rows.length := by omega
    refine ⟨Row rows 0, atRow r0, ?_⟩
    rw [t.wid _ (row_in r0)]
    by_cases c2 : C > 40
    · exact ifD_t (decide_eq_true (by omega)) (h2 (by omega) m0 c2)
    · exact ifD_f (decide_eq_false (by omega)) (hq (by omega) (Or.inr (by omega)))
  · cases rows with
    | nil => exact rl.symm
    | cons r l => cases e
theorem rank_any (t : Tab rows wished m C 3) {Q : Int → Prop} {X : HE → Prop} (h1 : m > 40 → X (.tooMany "rows" 40)) (h2 : m ≤ 40 → m ≠ 0 → C > 40 → X (.tooMany "columns" 40)) (h3 : m ≤ 40 → (m = 0 ∨ C ≤ 40) → ∀ n, badT rows = some n → X (.badNumber n)) (hq : m ≤ 40 → (m = 0 ∨ C ≤ 40) → badT rows = none → ∀ r, Q r) : m_rank_of rows Q X := by
  unfold m_rank_of
  have rl := t.rl
  refine size_any t h1 h2 fun m40 c40 => ?_
  refine forD_some (f := fun r : List Int => r.find? badP) (E := fun n => X (.badNumber n)) (fun x hx nx a b => row_any a b) (h3 m40 c40) fun hn => ?_
  have sm := badT_none hn
  by_cases m0 : m = 0
  · have er : rows = [] := List.length_eq_zero_iff.mp (by omega)
    subst er
    refine joinD_inv (fun v => v = ((0 : Nat) : Int)) (fun v ev => ?_) fun k hk => ⟨fun e => (by cases e), fun _ => hk _ rfl⟩
    subst ev
    refine mapD_ok (fun x => x) (fun x _ k hk => hk) ?_
    refine lead_ok3 (T0 := []) (W := 0) (N := 20) (Nat.le_refl 0) (by omega) (by decide) (fun j hj => by cases hj) (fun j hj => by cases hj) (Nat.le_refl _) t.Few fun T leads I => hq m40 c40 hn _
  have c40 : C ≤ 40 := by omega
  refine joinD_inv (fun v => v = (C : Int)) (fun v ev => ?_) fun k hk => ⟨fun e => ?_, fun e => ?_⟩
  · subst ev
    refine mapD_ok (fun x => x) (fun x _ k hk => hk) ?_
    rw [List.nil_append, List.map_id' rows]
    refine lead_ok3 (W := C) (N := 20) (Nat.le_refl C) (by omega) (by omega) (fun j hj => t.wid _ (row_in hj)) (fun j hj => (sm _ (row_in hj)).bd) (Nat.le_refl _) t.Few fun T leads I => hq m40 (Or.inr c40) hn _
  · have r0 : 0 < rows.length := by omega
    refine ⟨Row rows 0, atRow r0, ?_⟩
    exact hk _ (by rw [t.wid _ (row_in r0)])
  · cases rows with
    | nil => exact absurd rl.symm m0
    | cons r l => cases e
theorem due_ok (t : Tab rows wished m C k) (hm : m ≤ 100) (hC : C ≤ 100) (ranked : Bool) {Q : Option ErL → Prop} {X : HE → Prop} (hq : Q (dueF m C (badT (if ranked then rows else augT rows wished)))) : m__law_due rows wished (C : Int) ranked Q X := by
  unfold m__law_due
  have hb : big = 100000 := rfl
  have rl := t.rl
  by_cases c1 : m > 40
  · rw [due_rows c1] at hq
    exact ifD_t (decide_eq_true (by omega)) hq
  refine ifD_f (decide_eq_false (by omega)) ?_
  by_cases c2 : m ≠ 0 ∧ C > 40
  · rw [due_cols (by omega) c2.1 c2.2] at hq
    refine ifD_t ?_ hq
    rw [decide_eq_false (fun e => c2.1 (by rw [← rl, e]; rfl)), decide_eq_true (by omega)]
    rfl
  rw [due_bad (by omega) (by omega)] at hq
  refine ifD_f ?_ ?_
  · by_cases e : rows = []
    · rw [decide_eq_true e]; rfl
    · have : m ≠ 0 := fun q => e (List.length_eq_zero_iff.mp (by omega))
      rw [decide_eq_false e, decide_eq_false (by omega)]
      rfl
  generalize eT : (if ranked then rows else augT rows wished) = T at hq
  have Tl : T.length = m := by
    rw [← eT]
    cases ranked
    · exact t.augl
    · exact rl
  have hT : ∀ j, j < m → (ranked = true → Row T j = Row rows j) ∧ (ranked = false → Row T j = Row rows j ++ [wished.getD j 0]) := fun j hj => ⟨fun e => by rw [← eT, e]; rfl, fun e => by rw [← eT, e]; exact t.aug hj⟩
  have cut : ∀ j, j < m → T.drop j = Row T j :: T.drop (j + 1) := fun j hj => by
    rw [List.drop_eq_getElem_cons (by omega)]
    congr 1
    unfold Row
    rw [List.getD_eq_getElem?_getD, List.getElem?_eq_getElem (by omega)]
    rfl
  rw [Int.toNat_natCast]
  refine forD_inv (fun pre _ => badT T = badT (T.drop pre.length)) rfl (fun pre x post s nx ex hi hnx => ?_) fun s hi => ?_
  · obtain ⟨e1, e2⟩ := intsF_sp ex
    subst e1
    have pm : pre.length < m := by omega
    have pl : (pre ++ [(pre.length : Int)]).length = pre.length + 1 := by rw [List.length_append]; rfl
    refine ⟨_, atRow (by omega), joinD_inv (fun v => v = Row T pre.length) (fun v ev => ?_) fun k hk => ⟨fun e => ?_, fun e => ?_⟩⟩
    · subst ev
      have hi : badT T = (match (Row T pre.length).find? badP with | some b => some b | none => badT (T.drop (pre.length + 1))) := by
        rw [hi, cut _ pm]
        unfold badT
        rw [List.findSome?_cons]
        cases (Row T pre.length).find? badP <;> rfl
      refine forD_find (p := badP) (E := fun n => Q (some (bnE n))) (fun x hx nx h1 h2 => ⟨h1, h2⟩) (fun n hn => ?_) fun hn => hnx _ ?_
      · rw [hn] at hi
        rw [hi] at hq
        exact hq
      · rw [hn] at hi
        rw [pl]
        exact hi
    · have e : ranked = false := by simpa using e
      refine ⟨_, atR (by rw [t.wl]; exact pm), ?_, fun v ev => ?_⟩
      · rw [t.wid _ (row_in (by omega))]
        show C + 1 ≤ _
        omega
      · exact hk _ (by rw [ev, (hT _ pm).2 e])
    · have e : ranked = true := by simpa using e
      exact hk _ ((hT _ pm).1 e).symm
  · rw [intsF_len, List.drop_eq_nil_of_le (by omega)] at hi
    rw [hi] at hq
    exact hq
theorem asked_rank (t : Tab rows wished m C 3) {Q : Option (Int ⊕ ((Str × (List (Int × Int))) ⊕ ErL)) → Prop} {X : HE → Prop} (he : ∀ e, dueF m C (badT rows) = some e → Q (some (.inr (.inr e)))) (hq : dueF m C (badT rows) = none → ∀ r, Q (some (.inl r))) : m__law_asked rows wished true Q X := by
  unfold m__law_asked joinD tryD
  intro t0 _
  refine ifD_t rfl (rank_any t (fun h told e => ?_) (fun h h2 h3 told e => ?_) (fun h h2 n hn told e => ?_) fun h h2 hn r told e => ?_)
  · rw [e]; exact he _ (due_rows h)
  · rw [e]; exact he _ (due_cols h h2 h3)
  · rw [e]; exact he _ (by rw [due_bad h h2, hn]; rfl)
  · rw [e]; exact hq (by rw [due_bad h h2, hn]; rfl) r
/-- what solve tells where nothing is due -/
def Told (rows : List (List Int)) (wished : List Int) (C : Nat) (p : Str × List (Int × Int)) : Prop :=
  (∃ (D : Int) (y : Nat → Int), p.1 = "SOLVED" ∧ D ≠ 0 ∧ p.2.length = C ∧ RatsOf D y p.2 ∧ ∀ j, j < rows.length → dotL (Row rows j) y = wished.getD j 0 * D) ∨
  (∃ (D : Int) (y : Nat → Int), p.1 = "BARRED" ∧ D ≠ 0 ∧ p.2.length = rows.length ∧ RatsOf D y p.2 ∧ (∀ c, c < C → dotL (rows.map fun r => r.getD c 0) y = 0) ∧ dotL wished y = D)
theorem solve_any (t : Tab rows wished m C 3) {Q : Str × List (Int × Int) → Prop} {X : HE → Prop} (h1 : m > 40 → X (.tooMany "rows" 40)) (h2 : m ≤ 40 → m ≠ 0 → C > 40 → X (.tooMany "columns" 40)) (h3 : m ≤ 40 → (m = 0 ∨ C ≤ 40) → ∀ n, badT (augT rows wished) = some n → X (.badNumber n)) (hq : m ≤ 40 → (m = 0 ∨ C ≤ 40) → badT (augT rows wished) = none → ∀ p, Told rows wished (if m = 0 then 0 else C) p → Q p) (hC : C ≤ 100) : m_solve rows wished Q X := by
  unfold m_solve
  have rl := t.rl
  refine size_any t h1 h2 fun m40 c40 => ?_
  have ez : ∀ T : List (List Int × Int), badT (T.map fun x => x.1 ++ (x.2 :: [])) = T.findSome? fun x => (x.1 ++ (x.2 :: [])).find? badP := fun T => by
    unfold badT
    rw [List.findSome?_map]
    rfl
  refine forD_some (f := fun x : List Int × Int => (x.1 ++ (x.2 :: [])).find? badP) (E := fun n => X (.badNumber n)) (fun x hx nx a b => ⟨?_, row_any a b⟩) (fun n hn => h3 m40 c40 n ((ez _).trans hn)) fun hn => ?_
  · rw [List.length_append, t.wid _ (zip_mem hx).1]
    show C + 1 ≤ _
    omega
  have hn : badT (augT rows wished) = none := (ez _).trans hn
  have d : Dr rows wished (if m = 0 then 0 else C) := by
    by_cases m0 : m = 0
    · rw [if_pos m0]
      have er : rows = [] := List.length_eq_zero_iff.mp (by omega)
      have d := t.dr hn
      subst er
      exact ⟨d.wl, fun r hr => (by cases hr), d.sm, d.sw, t.Few⟩
    · rw [if_neg m0]
      exact t.dr hn
  have hc : (if m = 0 then 0 else C) ≤ 40 := by
    split <;> omega
  refine solved_ok (d.asks (by omega) hc) (fun e => if_pos (by omega)) (fun D y rs D0 rl ro e _ => ?_) fun D y ws _ D0 rl ro e1 e2 => ?_
  · exact hq m40 c40 hn _ (Or.inl ⟨D, y, rfl, D0, rl, ro, e⟩)
  · exact hq m40 c40 hn _ (Or.inr ⟨D, y, rfl, D0, rl, ro, e1, e2⟩)
theorem asked_solve (t : Tab rows wished m C 3) (hC : C ≤ 100) {Q : Option (Int ⊕ ((Str × (List (Int × Int))) ⊕ ErL)) → Prop} {X : HE → Prop} (he : ∀ e, dueF m C (badT (augT rows wished)) = some e → Q (some (.inr (.inr e)))) (hq : dueF m C (badT (augT rows wished)) = none → m ≤ 40 → (m = 0 ∨ C ≤ 40) → badT (augT rows wished) = none → ∀ p, Told rows wished (if m = 0 then 0 else C) p → Q (some (.inr (.inl p)))) : m__law_asked rows wished false Q X := by
  unfold m__law_asked joinD tryD
  intro t0 _
  refine ifD_f rfl (solve_any t (fun h told e => ?_) (fun h h2 h3 told e => ?_) (fun h h2 n hn told e => ?_) (fun h h2 hn p hp told e => ?_) hC)
  · rw [e]; exact he _ (due_rows h)
  · rw [e]; exact he _ (due_cols h h2 h3)
  · rw [e]; exact he _ (by rw [due_bad h h2, hn]; rfl)
  · rw [e]; exact hq (by rw [due_bad h h2, hn]; rfl) h h2 hn p hp
theorem orDt {c : Bool} {f : (Bool → Prop) → Prop} {k : Bool → Prop} (e : c = true) (h : k true) : orD c f k := ⟨fun _ => h, fun q => by rw [e] at q; cases q⟩
theorem tells_not {p : Str × List (Int × Int)} (h : p.1 = "BARRED") {c : Int} {Q : Bool → Prop} {X : HE → Prop} (hq : Q false) : m__law_solved p rows wished c Q X := by
  unfold m__law_solved
  refine orDf rfl (orDf rfl (orDt ?_ (ifD_t rfl hq)))
  rw [h]
  decide
theorem pick7 : ∀ n : Nat, (n : Int) < 7 → ∃ k : Nat, k ≤ 42 ∧ atI [(0 : Int), (1 : Int), (2 : Int), (39 : Int), (40 : Int), (41 : Int), (42 : Int)] (n : Int) = some (k : Int)
  | 0, _ => ⟨0, by decide, rfl⟩
  | 1, _ => ⟨1, by decide, rfl⟩
  | 2, _ => ⟨2, by decide, rfl⟩
  | 3, _ => ⟨39, by decide, rfl⟩
  | 4, _ => ⟨40, by decide, rfl⟩
  | 5, _ => ⟨41, by decide, rfl⟩
  | 6, _ => ⟨42, by decide, rfl⟩
  | n + 7, h => absurd h (by omega)
theorem Tab.set (t : Tab rows wished m C k) {i : Nat} (hi : i < m) {r : List Int} (hr : r.length = C) : Tab (rows.set i r) wished m C (k + 1) := by
  obtain ⟨Z, zk, hz⟩ := t.few
  refine ⟨by rw [List.length_set]; exact t.rl, t.wl, fun q hq => ?_, i :: Z, by rw [List.length_cons]; omega, fun j hj hn c => ?_⟩
  · rcases List.mem_or_eq_of_mem_set hq with h | h
    · exact t.wid q h
    · rw [h]; exact hr
  · rw [row_set (by rw [t.rl]; exact hi), if_neg (fun e => hn (by rw [e]; exact List.mem_cons_self ..))]
    exact hz j hj (fun q => hn (List.mem_cons_of_mem _ q)) c
theorem Tab.up (t : Tab rows wished m C k) {l : Nat} (h : k ≤ l) : Tab rows wished m C l := by
  obtain ⟨Z, zk, hz⟩ := t.few
  exact ⟨t.rl, t.wl, t.wid, Z, by omega, hz⟩
theorem Tab.wish (t : Tab rows wished m C k) {i : Nat} {v : Int} : Tab rows (wished.set i v) m C k := ⟨t.rl, by rw [List.length_set]; exact t.wl, t.wid, t.few⟩
theorem last_ok (t : Tab rows wished m C 3) (m0 : m ≠ 0) (m40 : m ≤ 40) (c40 : C ≤ 40) (hn : badT (augT rows wished) = none) {p : Str × List (Int × Int)} (hp : Told rows wished C p) {Q : Bool → Prop} {X X2 : HE → Prop} (hq : Q true) : m__law_solved p rows wished (C : Int) (fun v55 => orD v55 (fun k57 => m__law_barred p rows wished (C : Int) (fun v58 => k57 v58) X2) fun c56 => Q c56) X := by
  have d := t.dr hn
  have hl : rows.length ≤ 40 := by rw [t.rl]; exact m40
  obtain ⟨p1, p2⟩ := p
  rcases hp with ⟨D, y, e, D0, rl, ro, h⟩ | ⟨D, y, e, D0, rl, ro, h1, h2⟩
  · have e : p1 = "SOLVED" := e
    subst e
    exact tells_solved d hl c40 D0 rl ro h (orDt rfl hq)
  · have e : p1 = "BARRED" := e
    subst e
    exact tells_not rfl (orDf rfl (tells_barred d hl c40 D0 rl ro h1 h2 hq))
theorem law_pure : m_law (· = true) noX := by
  unfold m_law
  have hb : big = 100000 := rfl
  refine draw_ok (by decide) (by decide) fun a ha => ?_
  obtain ⟨m, hm, em⟩ := pick7 a ha
  refine ⟨_, em, draw_ok (by decide) (by decide) fun b hb' => ?_⟩
  obtain ⟨C, hC, ec⟩ := pick7 b hb'
  refine ⟨_, ec, ⟨by omega, by omega⟩, ⟨by omega, by omega⟩, ⟨by omega, by omega⟩, draw_ok (by decide) (by decide) fun g hg => ⟨⟨by omega, by omega⟩, ?_⟩⟩
  rw [Int.toNat_natCast, Int.toNat_natCast, Int.toNat_natCast]
  refine forD_inv (fun pre s => Tab s.1 s.2 m C pre.length) ⟨by rw [List.length_map, intsF_len], List.length_replicate, fun r hr => ?_, [], Nat.le_refl _, fun j hj _ c => ?_⟩ (fun pre x post s nx ex t hnx => ?_) fun s t => ?_
  · obtain ⟨x, _, e⟩ := List.mem_map.mp hr
    rw [← e]
    exact List.length_replicate
  · have : Row ((intsF 0 m).map fun _ => List.replicate C (0 : Int)) j = List.replicate C 0 := by
      unfold Row
      rw [List.getD_eq_getElem?_getD, List.getElem?_map, List.getElem?_eq_getElem (by rw [intsF_len]; exact hj)]
      rfl
    show (Row ((intsF 0 m).map fun _ => List.replicate C (0 : Int)) j).getD c 0 = 0
    rw [this, List.getD_eq_getElem?_getD, List.getElem?_replicate]
    split <;> rfl
  · have pl : (pre ++ [x]).length = pre.length + 1 := by rw [List.length_append]; rfl
    rw [pl] at hnx
    obtain ⟨rows, wished⟩ := s
    have t : Tab rows wished m C pre.length := t
    refine draw_ok (by decide) (by decide) fun n hn => ?_
    intro num _
    refine joinD_inv (fun _ => True) (fun v _ => ?_) fun k hk => draw_ok (by decide) (by decide) fun n hn => ⟨fun _ _ _ => hk _ trivial, fun _ => hk _ trivial⟩
    by_cases m0 : m = 0
    · exact ifD_f (decide_eq_false (by omega)) (hnx _ (t.up (Nat.le_succ _)))
    refine ifD_t (decide_eq_true (by omega)) (draw_ok (by omega) (by omega) fun i hi => ?_)
    have hi : i < m := by omega
    have ir : i < rows.length := by rw [t.rl]; exact hi
    refine ⟨i, ixNn ir, Row rows i, row_get ir, draw_ok (by omega) (by omega) fun c hc => ?_⟩
    have wr := t.wid _ (row_in ir)
    by_cases cc : c < C
    · exact ifD_t (decide_eq_true (by omega)) ⟨c, ixNn (by rw [wr]; exact cc), hnx _ (t.set hi (by rw [List.length_set]; exact wr))⟩
    · refine ifD_f (decide_eq_false (by omega)) (draw_ok (by omega) (by omega) fun j hj => ⟨j, ixNn (by show j < wished.length; rw [t.wl]; omega), hnx _ (t.wish.up (Nat.le_succ _))⟩)
  · rw [intsF_len] at t
    have t := t.up (l := 3) (by omega)
    obtain ⟨rows, wished⟩ := s
    have t : Tab rows wished m C 3 := t
    show m__law_due rows wished (C : Int) true _ _
    refine due_ok t (by omega) (by omega) true ?_
    rw [if_pos (rfl : true = true)]
    show m__law_asked (rows.map fun x36 => x36) wished true _ _
    rw [List.map_id' rows]
    have go : m__law_due rows wished (C : Int) false (fun v48 => m__law_asked rows wished false (fun v51 =>
        optD v48 (∃ told53 : (Str × (List (Int × Int))), v51 = (some (.inr (.inl told53))) ∧
        ifD (decide (rows = [])) ((told53).2 = [] ∧ (true && (decide ((((told53).1, []) : (Str × (List Int))) = (("SOLVED" : Str), [])))) = true) (
        m__law_solved told53 rows wished (C : Int) (fun v55 => orD v55 (fun k57 => m__law_barred told53 rows wished (C : Int) (fun v58 => k57 v58) noX) (fun c56 => c56 = true)) noX)) (fun due52 =>
        ∃ told59 : (List (Str ⊕ (Int ⊕ Bool))), v51 = (some (.inr (.inr told59))) ∧
        (true && (PyData.eqv (EDat.enc (r := (yL (yU yS (yU zI zB)))) told59) (EDat.enc (r := (yL (yU yS (yU zI zB)))) due52))) = true)) noX) noX := by
      refine due_ok t (by omega) (by omega) false ?_
      refine asked_solve t (by omega) (fun e he => ?_) fun hn m40 c40 bn p hp => ?_
      · refine optD_of (fun q => ?_) fun z ez => ?_
        · have q : dueF m C (badT (augT rows wished)) = none := q
          rw [he] at q
          cases q
        · have ez : dueF m C (badT (augT rows wished)) = some z := ez
          rw [he] at ez
          have ez := Option.some.inj ez
          subst ez
          refine ⟨_, rfl, ?_⟩
          rw [er_eqv (due_er he)]
          rfl
      · refine optD_of (fun _ => ⟨_, rfl, ?_⟩) fun z ez => ?_
        · by_cases m0 : m = 0
          · rw [if_pos m0] at hp
            have er : rows = [] := List.length_eq_zero_iff.mp (by rw [t.rl]; exact m0)
            have ew : wished = [] := List.length_eq_zero_iff.mp (by rw [t.wl]; exact m0)
            subst er ew
            refine ifD_t (decide_eq_true rfl) ?_
            rcases hp with ⟨D, y, e, D0, rl, ro, h⟩ | ⟨D, y, e, D0, rl, ro, h1, h2⟩
            · refine ⟨List.length_eq_zero_iff.mp rl, ?_⟩
              rw [e, decide_eq_true rfl]
              rfl
            · exact absurd h2.symm D0
          · rw [if_neg m0] at hp
            refine ifD_f (decide_eq_false fun e => m0 (by rw [← t.rl, e]; rfl)) ?_
            exact last_ok t m0 m40 (by omega) bn hp rfl
        · have ez : dueF m C (badT (augT rows wished)) = some z := ez
          rw [hn] at ez
          cases ez
    refine asked_rank t (fun e he => ?_) fun hn r => ?_
    · show andD (dueF m C (badT rows)).isNone _ _
      rw [he]
      refine ⟨fun q => (by cases q), fun _ => orDf rfl ?_⟩
      refine ⟨fun _ => ⟨e, rfl, ?_⟩, fun q => (by cases q)⟩
      have : PyData.eqv (EDat.enc (r := (yL (yU yS (yU zI zB)))) e) (EDat.enc (r := (yO (yL (yU yS (yU zI zB))))) (some e)) = true := er_eqv (due_er he)
      rw [this]
      exact ifD_f rfl go
    · show andD (dueF m C (badT rows)).isNone _ _
      rw [hn]
      refine ⟨fun _ => ⟨r, rfl, ?_⟩, fun q => (by cases q)⟩
      unfold m__law_int
      refine orDf rfl ?_
      exact ⟨fun q => (by cases q), fun _ => ifD_f rfl go⟩
end
theorem all_mk {P : Program} {w : World} {K : PySem.W.Frag} {h : Heap} {mg : Str → Option Value} {fa : Addr} (X : K.In h) (G : h.Ns mainGlobals mg) (hfa : mg "law" = some (.ref fa)) (top : (P.main.scope.names.lookup ("super" : Str)).isSome = false)
    {t_MOST : Tok}
    {t_LARGEST : Tok}
    {f__law_bag : Addr} {od__law_bag an__law_bag : Option Addr} {sl__law_bag : Array (Option Value)} {oc__law_bag kV__law_bag dc__law_bag pm__law_bag cd__law_bag ct__law_bag : Value}
    {f__law_draw : Addr} {od__law_draw an__law_draw : Option Addr} {sl__law_draw : Array (Option Value)} {oc__law_draw kV__law_draw dc__law_draw pm__law_draw cd__law_draw ct__law_draw : Value}
    {f_common_divisor : Addr} {od_common_divisor an_common_divisor : Option Addr} {sl_common_divisor : Array (Option Value)} {oc_common_divisor kV_common_divisor dc_common_divisor pm_common_divisor cd_common_divisor ct_common_divisor : Value}
    {f_check_number : Addr} {od_check_number an_check_number : Option Addr} {sl_check_number : Array (Option Value)} {oc_check_number kV_check_number dc_check_number pm_check_number cd_check_number ct_check_number : Value}
    {f_check_size : Addr} {od_check_size an_check_size : Option Addr} {sl_check_size : Array (Option Value)} {oc_check_size kV_check_size dc_check_size pm_check_size cd_check_size ct_check_size : Value}
    {f_check_row : Addr} {od_check_row an_check_row : Option Addr} {sl_check_row : Array (Option Value)} {oc_check_row kV_check_row dc_check_row pm_check_row cd_check_row ct_check_row : Value}
    {f_lowered : Addr} {od_lowered an_lowered : Option Addr} {sl_lowered : Array (Option Value)} {oc_lowered kV_lowered dc_lowered pm_lowered cd_lowered ct_lowered : Value}
    {f_combined : Addr} {od_combined an_combined : Option Addr} {sl_combined : Array (Option Value)} {oc_combined kV_combined dc_combined pm_combined cd_combined ct_combined : Value}
    {f_lead_columns : Addr} {od_lead_columns an_lead_columns : Option Addr} {sl_lead_columns : Array (Option Value)} {oc_lead_columns kV_lead_columns dc_lead_columns pm_lead_columns cd_lead_columns ct_lead_columns : Value}
    {f_barred : Addr} {od_barred an_barred : Option Addr} {sl_barred : Array (Option Value)} {oc_barred kV_barred dc_barred pm_barred cd_barred ct_barred : Value}
    {f_solved : Addr} {od_solved an_solved : Option Addr} {sl_solved : Array (Option Value)} {oc_solved kV_solved dc_solved pm_solved cd_solved ct_solved : Value}
    {f_solve : Addr} {od_solve an_solve : Option Addr} {sl_solve : Array (Option Value)} {oc_solve kV_solve dc_solve pm_solve cd_solve ct_solve : Value}
    {f_rank_of : Addr} {od_rank_of an_rank_of : Option Addr} {sl_rank_of : Array (Option Value)} {oc_rank_of kV_rank_of dc_rank_of pm_rank_of cd_rank_of ct_rank_of : Value}
    {f__law_divisor : Addr} {od__law_divisor an__law_divisor : Option Addr} {sl__law_divisor : Array (Option Value)} {oc__law_divisor kV__law_divisor dc__law_divisor pm__law_divisor cd__law_divisor ct__law_divisor : Value}
    {f__law_int : Addr} {od__law_int an__law_int : Option Addr} {sl__law_int : Array (Option Value)} {oc__law_int kV__law_int dc__law_int pm__law_int cd__law_int ct__law_int : Value}
    {f__law_gives : Addr} {od__law_gives an__law_gives : Option Addr} {sl__law_gives : Array (Option Value)} {oc__law_gives kV__law_gives dc__law_gives pm__law_gives cd__law_gives ct__law_gives : Value}
    {f__law_ratios : Addr} {od__law_ratios an__law_ratios : Option Addr} {sl__law_ratios : Array (Option Value)} {oc__law_ratios kV__law_ratios dc__law_ratios pm__law_ratios cd__law_ratios ct__law_ratios : Value}
    {f__law_solved : Addr} {od__law_solved an__law_solved : Option Addr} {sl__law_solved : Array (Option Value)} {oc__law_solved kV__law_solved dc__law_solved pm__law_solved cd__law_solved ct__law_solved : Value}
    {f__law_barred : Addr} {od__law_barred an__law_barred : Option Addr} {sl__law_barred : Array (Option Value)} {oc__law_barred kV__law_barred dc__law_barred pm__law_barred cd__law_barred ct__law_barred : Value}
    {f__law_due : Addr} {od__law_due an__law_due : Option Addr} {sl__law_due : Array (Option Value)} {oc__law_due kV__law_due dc__law_due pm__law_due cd__law_due ct__law_due : Value}
    {f__law_asked : Addr} {od__law_asked an__law_asked : Option Addr} {sl__law_asked : Array (Option Value)} {oc__law_asked kV__law_asked dc__law_asked pm__law_asked cd__law_asked ct__law_asked : Value}
    {f_law : Addr} {od_law an_law : Option Addr} {sl_law : Array (Option Value)} {oc_law kV_law dc_law pm_law cd_law ct_law : Value}
    {C_HeldError : Addr}
    {C_BadNumber fI_BadNumber N_BadNumber cda_BadNumber cc_BadNumber : Addr} {nm_BadNumber q_BadNumber file_BadNumber : Str} {bs_BadNumber bm_BadNumber sub_BadNumber : List Value} {sn_BadNumber : List Str} {ab_BadNumber : Bool} {col_BadNumber : Option Bool} {dd_BadNumber od_BadNumber an_BadNumber cdd_BadNumber cld_BadNumber : Option Addr} {m0_BadNumber m1_BadNumber m2_BadNumber m3_BadNumber m5_BadNumber : Option Value} {oc_BadNumber kV_BadNumber dc_BadNumber pm_BadNumber ct_BadNumber ccl_BadNumber cl_BadNumber : Value} {sl_BadNumber ccs_BadNumber csl_BadNumber : Array (Option Value)} {vs_BadNumber : Array Value} {tf_BadNumber : Tok}
    {C_TooMany fI_TooMany N_TooMany cda_TooMany cc_TooMany : Addr} {nm_TooMany q_TooMany file_TooMany : Str} {bs_TooMany bm_TooMany sub_TooMany : List Value} {sn_TooMany : List Str} {ab_TooMany : Bool} {col_TooMany : Option Bool} {dd_TooMany od_TooMany an_TooMany cdd_TooMany cld_TooMany : Option Addr} {m0_TooMany m1_TooMany m2_TooMany m3_TooMany m5_TooMany : Option Value} {oc_TooMany kV_TooMany dc_TooMany pm_TooMany ct_TooMany ccl_TooMany cl_TooMany : Value} {sl_TooMany ccs_TooMany csl_TooMany : Array (Option Value)} {vs_TooMany : Array Value} {tf_TooMany : Tok}
    {C_Ratio : Addr}
    {f_Ratio___init__ : Addr} {od_Ratio___init__ an_Ratio___init__ : Option Addr} {sl_Ratio___init__ : Array (Option Value)} {oc_Ratio___init__ kV_Ratio___init__ dc_Ratio___init__ pm_Ratio___init__ cd_Ratio___init__ ct_Ratio___init__ : Value}
    {dT_Ratio___init__ : Addr} {dd_Ratio___init__ : Option Addr} {dsl_Ratio___init__ : Array (Option Value)} {doc_Ratio___init__ : Value} {dn_Ratio___init__ : Nat} {dk0_Ratio___init__ : Tok}
    {f_Ratio___str__ : Addr} {od_Ratio___str__ an_Ratio___str__ : Option Addr} {sl_Ratio___str__ : Array (Option Value)} {oc_Ratio___str__ kV_Ratio___str__ dc_Ratio___str__ pm_Ratio___str__ cd_Ratio___str__ ct_Ratio___str__ : Value}
    (z_len : PySem.W.nsIn K mainGlobals "len" = some none)
    (z_range : PySem.W.nsIn K mainGlobals "range" = some none)
    (z_abs : PySem.W.nsIn K mainGlobals "abs" = some none)
    (z_sum : PySem.W.nsIn K mainGlobals "sum" = some none)
    (z_sorted : PySem.W.nsIn K mainGlobals "sorted" = some none)
    (z_isinstance : PySem.W.nsIn K mainGlobals "isinstance" = some none)
    (z_zip : PySem.W.nsIn K mainGlobals "zip" = some none)
    (z_enumerate : PySem.W.nsIn K mainGlobals "enumerate" = some none)
    (z_reversed : PySem.W.nsIn K mainGlobals "reversed" = some none)
    (z_int : PySem.W.nsIn K mainGlobals "int" = some none)
    (z_str : PySem.W.nsIn K mainGlobals "str" = some none)
    (z_list : PySem.W.nsIn K mainGlobals "list" = some none)
    (z_tuple : PySem.W.nsIn K mainGlobals "tuple" = some none)
    (z_bool : PySem.W.nsIn K mainGlobals "bool" = some none)
    (z_all : PySem.W.nsIn K mainGlobals "all" = some none)
    (z_any : PySem.W.nsIn K mainGlobals "any" = some none)
    (z_ValueError : PySem.W.nsIn K mainGlobals "ValueError" = some none)
    (z_super : PySem.W.nsIn K mainGlobals "super" = some none)
    (a_MOST : PySem.W.nsIn K mainGlobals "MOST" = some (some (.int (40 : Int) t_MOST)))
    (a_LARGEST : PySem.W.nsIn K mainGlobals "LARGEST" = some (some (.int (1000000 : Int) t_LARGEST)))
    (a__law_bag : PySem.W.nsIn K mainGlobals "_law_bag" = some (some (.ref f__law_bag)))
    (l__law_bag : K.lookup f__law_bag = some ⟨oc__law_bag, od__law_bag, .func (PySem.W.fnOf "_law_bag" "_law_bag" (defArgs s__law_bag) (defBody s__law_bag) (defScope s__law_bag) .none kV__law_bag dc__law_bag pm__law_bag an__law_bag cd__law_bag ct__law_bag), sl__law_bag⟩)
    (c__law_bag : PySem.W.codeIn K cd__law_bag "_law_bag" = true)
    (k__law_bag : PySem.W.keepIn K (.ref f__law_bag) = true)
    (a__law_draw : PySem.W.nsIn K mainGlobals "_law_draw" = some (some (.ref f__law_draw)))
    (l__law_draw : K.lookup f__law_draw = some ⟨oc__law_draw, od__law_draw, .func (PySem.W.fnOf "_law_draw" "_law_draw" (defArgs s__law_draw) (defBody s__law_draw) (defScope s__law_draw) .none kV__law_draw dc__law_draw pm__law_draw an__law_draw cd__law_draw ct__law_draw), sl__law_draw⟩)
    (c__law_draw : PySem.W.codeIn K cd__law_draw "_law_draw" = true)
    (k__law_draw : PySem.W.keepIn K (.ref f__law_draw) = true)
    (a_common_divisor : PySem.W.nsIn K mainGlobals "common_divisor" = some (some (.ref f_common_divisor)))
    (l_common_divisor : K.lookup f_common_divisor = some ⟨oc_common_divisor, od_common_divisor, .func (PySem.W.fnOf "common_divisor" "common_divisor" (defArgs s_common_divisor) (defBody s_common_divisor) (defScope s_common_divisor) .none kV_common_divisor dc_common_divisor pm_common_divisor an_common_divisor cd_common_divisor ct_common_divisor), sl_common_divisor⟩)
    (c_common_divisor : PySem.W.codeIn K cd_common_divisor "common_divisor" = true)
    (k_common_divisor : PySem.W.keepIn K (.ref f_common_divisor) = true)
    (a_check_number : PySem.W.nsIn K mainGlobals "check_number" = some (some (.ref f_check_number)))
    (l_check_number : K.lookup f_check_number = some ⟨oc_check_number, od_check_number, .func (PySem.W.fnOf "check_number" "check_number" (defArgs s_check_number) (defBody s_check_number) (defScope s_check_number) .none kV_check_number dc_check_number pm_check_number an_check_number cd_check_number ct_check_number), sl_check_number⟩)
    (c_check_number : PySem.W.codeIn K cd_check_number "check_number" = true)
    (k_check_number : PySem.W.keepIn K (.ref f_check_number) = true)
    (a_check_size : PySem.W.nsIn K mainGlobals "check_size" = some (some (.ref f_check_size)))
    (l_check_size : K.lookup f_check_size = some ⟨oc_check_size, od_check_size, .func (PySem.W.fnOf "check_size" "check_size" (defArgs s_check_size) (defBody s_check_size) (defScope s_check_size) .none kV_check_size dc_check_size pm_check_size an_check_size cd_check_size ct_check_size), sl_check_size⟩)
    (c_check_size : PySem.W.codeIn K cd_check_size "check_size" = true)
    (k_check_size : PySem.W.keepIn K (.ref f_check_size) = true)
    (a_check_row : PySem.W.nsIn K mainGlobals "check_row" = some (some (.ref f_check_row)))
    (l_check_row : K.lookup f_check_row = some ⟨oc_check_row, od_check_row, .func (PySem.W.fnOf "check_row" "check_row" (defArgs s_check_row) (defBody s_check_row) (defScope s_check_row) .none kV_check_row dc_check_row pm_check_row an_check_row cd_check_row ct_check_row), sl_check_row⟩)
    (c_check_row : PySem.W.codeIn K cd_check_row "check_row" = true)
    (k_check_row : PySem.W.keepIn K (.ref f_check_row) = true)
    (a_lowered : PySem.W.nsIn K mainGlobals "lowered" = some (some (.ref f_lowered)))
    (l_lowered : K.lookup f_lowered = some ⟨oc_lowered, od_lowered, .func (PySem.W.fnOf "lowered" "lowered" (defArgs s_lowered) (defBody s_lowered) (defScope s_lowered) .none kV_lowered dc_lowered pm_lowered an_lowered cd_lowered ct_lowered), sl_lowered⟩)
    (c_lowered : PySem.W.codeIn K cd_lowered "lowered" = true)
    (k_lowered : PySem.W.keepIn K (.ref f_lowered) = true)
    (a_combined : PySem.W.nsIn K mainGlobals "combined" = some (some (.ref f_combined)))
    (l_combined : K.lookup f_combined = some ⟨oc_combined, od_combined, .func (PySem.W.fnOf "combined" "combined" (defArgs s_combined) (defBody s_combined) (defScope s_combined) .none kV_combined dc_combined pm_combined an_combined cd_combined ct_combined), sl_combined⟩)
    (c_combined : PySem.W.codeIn K cd_combined "combined" = true)
    (k_combined : PySem.W.keepIn K (.ref f_combined) = true)
    (a_lead_columns : PySem.W.nsIn K mainGlobals "lead_columns" = some (some (.ref f_lead_columns)))
    (l_lead_columns : K.lookup f_lead_columns = some ⟨oc_lead_columns, od_lead_columns, .func (PySem.W.fnOf "lead_columns" "lead_columns" (defArgs s_lead_columns) (defBody s_lead_columns) (defScope s_lead_columns) .none kV_lead_columns dc_lead_columns pm_lead_columns an_lead_columns cd_lead_columns ct_lead_columns), sl_lead_columns⟩)
    (c_lead_columns : PySem.W.codeIn K cd_lead_columns "lead_columns" = true)
    (k_lead_columns : PySem.W.keepIn K (.ref f_lead_columns) = true)
    (a_barred : PySem.W.nsIn K mainGlobals "barred" = some (some (.ref f_barred)))
    (l_barred : K.lookup f_barred = some ⟨oc_barred, od_barred, .func (PySem.W.fnOf "barred" "barred" (defArgs s_barred) (defBody s_barred) (defScope s_barred) .none kV_barred dc_barred pm_barred an_barred cd_barred ct_barred), sl_barred⟩)
    (c_barred : PySem.W.codeIn K cd_barred "barred" = true)
    (k_barred : PySem.W.keepIn K (.ref f_barred) = true)
    (a_solved : PySem.W.nsIn K mainGlobals "solved" = some (some (.ref f_solved)))
    (l_solved : K.lookup f_solved = some ⟨oc_solved, od_solved, .func (PySem.W.fnOf "solved" "solved" (defArgs s_solved) (defBody s_solved) (defScope s_solved) .none kV_solved dc_solved pm_solved an_solved cd_solved ct_solved), sl_solved⟩)
    (c_solved : PySem.W.codeIn K cd_solved "solved" = true)
    (k_solved : PySem.W.keepIn K (.ref f_solved) = true)
    (a_solve : PySem.W.nsIn K mainGlobals "solve" = some (some (.ref f_solve)))
    (l_solve : K.lookup f_solve = some ⟨oc_solve, od_solve, .func (PySem.W.fnOf "solve" "solve" (defArgs s_solve) (defBody s_solve) (defScope s_solve) .none kV_solve dc_solve pm_solve an_solve cd_solve ct_solve), sl_solve⟩)
    (c_solve : PySem.W.codeIn K cd_solve "solve" = true)
    (k_solve : PySem.W.keepIn K (.ref f_solve) = true)
    (a_rank_of : PySem.W.nsIn K mainGlobals "rank_of" = some (some (.ref f_rank_of)))
    (l_rank_of : K.lookup f_rank_of = some ⟨oc_rank_of, od_rank_of, .func (PySem.W.fnOf "rank_of" "rank_of" (defArgs s_rank_of) (defBody s_rank_of) (defScope s_rank_of) .none kV_rank_of dc_rank_of pm_rank_of an_rank_of cd_rank_of ct_rank_of), sl_rank_of⟩)
    (c_rank_of : PySem.W.codeIn K cd_rank_of "rank_of" = true)
    (k_rank_of : PySem.W.keepIn K (.ref f_rank_of) = true)
    (a__law_divisor : PySem.W.nsIn K mainGlobals "_law_divisor" = some (some (.ref f__law_divisor)))
    (l__law_divisor : K.lookup f__law_divisor = some ⟨oc__law_divisor, od__law_divisor, .func (PySem.W.fnOf "_law_divisor" "_law_divisor" (defArgs s__law_divisor) (defBody s__law_divisor) (defScope s__law_divisor) .none kV__law_divisor dc__law_divisor pm__law_divisor an__law_divisor cd__law_divisor ct__law_divisor), sl__law_divisor⟩)
    (c__law_divisor : PySem.W.codeIn K cd__law_divisor "_law_divisor" = true)
    (k__law_divisor : PySem.W.keepIn K (.ref f__law_divisor) = true)
    (a__law_int : PySem.W.nsIn K mainGlobals "_law_int" = some (some (.ref f__law_int)))
    (l__law_int : K.lookup f__law_int = some ⟨oc__law_int, od__law_int, .func (PySem.W.fnOf "_law_int" "_law_int" (defArgs s__law_int) (defBody s__law_int) (defScope s__law_int) .none kV__law_int dc__law_int pm__law_int an__law_int cd__law_int ct__law_int), sl__law_int⟩)
    (c__law_int : PySem.W.codeIn K cd__law_int "_law_int" = true)
    (k__law_int : PySem.W.keepIn K (.ref f__law_int) = true)
    (a__law_gives : PySem.W.nsIn K mainGlobals "_law_gives" = some (some (.ref f__law_gives)))
    (l__law_gives : K.lookup f__law_gives = some ⟨oc__law_gives, od__law_gives, .func (PySem.W.fnOf "_law_gives" "_law_gives" (defArgs s__law_gives) (defBody s__law_gives) (defScope s__law_gives) .none kV__law_gives dc__law_gives pm__law_gives an__law_gives cd__law_gives ct__law_gives), sl__law_gives⟩)
    (c__law_gives : PySem.W.codeIn K cd__law_gives "_law_gives" = true)
    (k__law_gives : PySem.W.keepIn K (.ref f__law_gives) = true)
    (a__law_ratios : PySem.W.nsIn K mainGlobals "_law_ratios" = some (some (.ref f__law_ratios)))
    (l__law_ratios : K.lookup f__law_ratios = some ⟨oc__law_ratios, od__law_ratios, .func (PySem.W.fnOf "_law_ratios" "_law_ratios" (defArgs s__law_ratios) (defBody s__law_ratios) (defScope s__law_ratios) .none kV__law_ratios dc__law_ratios pm__law_ratios an__law_ratios cd__law_ratios ct__law_ratios), sl__law_ratios⟩)
    (c__law_ratios : PySem.W.codeIn K cd__law_ratios "_law_ratios" = true)
    (k__law_ratios : PySem.W.keepIn K (.ref f__law_ratios) = true)
    (a__law_solved : PySem.W.nsIn K mainGlobals "_law_solved" = some (some (.ref f__law_solved)))
    (l__law_solved : K.lookup f__law_solved = some ⟨oc__law_solved, od__law_solved, .func (PySem.W.fnOf "_law_solved" "_law_solved" (defArgs s__law_solved) (defBody s__law_solved) (defScope s__law_solved) .none kV__law_solved dc__law_solved pm__law_solved an__law_solved cd__law_solved ct__law_solved), sl__law_solved⟩)
    (c__law_solved : PySem.W.codeIn K cd__law_solved "_law_solved" = true)
    (k__law_solved : PySem.W.keepIn K (.ref f__law_solved) = true)
    (a__law_barred : PySem.W.nsIn K mainGlobals "_law_barred" = some (some (.ref f__law_barred)))
    (l__law_barred : K.lookup f__law_barred = some ⟨oc__law_barred, od__law_barred, .func (PySem.W.fnOf "_law_barred" "_law_barred" (defArgs s__law_barred) (defBody s__law_barred) (defScope s__law_barred) .none kV__law_barred dc__law_barred pm__law_barred an__law_barred cd__law_barred ct__law_barred), sl__law_barred⟩)
    (c__law_barred : PySem.W.codeIn K cd__law_barred "_law_barred" = true)
    (k__law_barred : PySem.W.keepIn K (.ref f__law_barred) = true)
    (a__law_due : PySem.W.nsIn K mainGlobals "_law_due" = some (some (.ref f__law_due)))
    (l__law_due : K.lookup f__law_due = some ⟨oc__law_due, od__law_due, .func (PySem.W.fnOf "_law_due" "_law_due" (defArgs s__law_due) (defBody s__law_due) (defScope s__law_due) .none kV__law_due dc__law_due pm__law_due an__law_due cd__law_due ct__law_due), sl__law_due⟩)
    (c__law_due : PySem.W.codeIn K cd__law_due "_law_due" = true)
    (k__law_due : PySem.W.keepIn K (.ref f__law_due) = true)
    (a__law_asked : PySem.W.nsIn K mainGlobals "_law_asked" = some (some (.ref f__law_asked)))
    (l__law_asked : K.lookup f__law_asked = some ⟨oc__law_asked, od__law_asked, .func (PySem.W.fnOf "_law_asked" "_law_asked" (defArgs s__law_asked) (defBody s__law_asked) (defScope s__law_asked) .none kV__law_asked dc__law_asked pm__law_asked an__law_asked cd__law_asked ct__law_asked), sl__law_asked⟩)
    (c__law_asked : PySem.W.codeIn K cd__law_asked "_law_asked" = true)
    (k__law_asked : PySem.W.keepIn K (.ref f__law_asked) = true)
    (a_law : PySem.W.nsIn K mainGlobals "law" = some (some (.ref f_law)))
    (l_law : K.lookup f_law = some ⟨oc_law, od_law, .func (PySem.W.fnOf "law" "law" (defArgs s_law) (defBody s_law) (defScope s_law) .none kV_law dc_law pm_law an_law cd_law ct_law), sl_law⟩)
    (c_law : PySem.W.codeIn K cd_law "law" = true)
    (k_law : PySem.W.keepIn K (.ref f_law) = true)
    (aC_HeldError : PySem.W.nsIn K mainGlobals "HeldError" = some (some (.ref C_HeldError)))
    (e_opq : PySem.W.nsIn K cStatics "thirdparty.any" = some none)
    (e_cg : PySem.W.specialIn K (.builtin "object.__class__") "__get__" = some (some (.builtin "getset_descriptor.__get__")))
    (e_ct : PySem.W.takesIn K (.builtin "object.__class__") = some true)
    (aC_BadNumber : PySem.W.nsIn K mainGlobals "BadNumber" = some (some (.ref C_BadNumber)))
    (xL_BadNumber : K.lookup C_BadNumber = some (excClassObj nm_BadNumber q_BadNumber C_BadNumber N_BadNumber bs_BadNumber bm_BadNumber true sn_BadNumber sub_BadNumber ab_BadNumber col_BadNumber dd_BadNumber m0_BadNumber m1_BadNumber m2_BadNumber m3_BadNumber m5_BadNumber "ValueError.__new__"))
    (bm_BadNumber : PySem.HandSPX.refsVE bm_BadNumber = true)
    (sa_BadNumber : PySem.W.findIn K (.ref C_BadNumber) "__setattr__" = some (some (.builtin "object.__setattr__")))
    (ga_BadNumber : PySem.W.findIn K (.ref C_BadNumber) "__getattribute__" = some (some (.builtin "BaseException.__getattribute__")))
    (gg_BadNumber : PySem.W.findIn K (.ref C_BadNumber) "__getattr__" = some none)
    (no_number_BadNumber : PySem.W.findIn K (.ref C_BadNumber) "number" = some none)
    (iC_BadNumber : PySem.W.findIn K (.ref C_BadNumber) "__init__" = some (some (.ref fI_BadNumber)))
    (tI_BadNumber : PySem.W.typeIn K (.ref fI_BadNumber) = some (.type "function"))
    (kC_BadNumber : PySem.W.keepIn K (.ref C_BadNumber) = true)
    (ex_BadNumber : PySem.W.subIn K (.ref C_BadNumber) (.type "BaseException") = some true)
    (ve_BadNumber : PySem.W.subIn K (.ref C_BadNumber) (.type "ValueError") = some true)
    (ty_BadNumber : PySem.W.typeIn K (.ref C_BadNumber) = some (.type "type"))
    (hd_BadNumber : PySem.W.hasDictIn K C_BadNumber = true)
    (sup_BadNumber : PySem.W.ks_superIn K C_BadNumber C_BadNumber "__init__" = some (some (.builtin "ValueError.__init__")))
    (mro_BadNumber : PySem.W.mroIn K C_BadNumber (.ref C_BadNumber) = some true)
    (su_BadNumber : PySem.W.subIn K (.ref C_BadNumber) (.ref C_BadNumber) = some true)
    (ca_BadNumber : PySem.W.findIn K (.ref C_BadNumber) "__class__" = some (some (.builtin "object.__class__")))
    (mo_BadNumber : PySem.W.mroIn K C_BadNumber (.type "object") = some true)
    (l_BadNumber : K.lookup fI_BadNumber = some ⟨oc_BadNumber, od_BadNumber, .func (PySem.W.ksFn "__init__" "BadNumber.__init__" (defArgs (inClass (topS 4) 0)) (defBody (inClass (topS 4) 0)) (defScope (inClass (topS 4) 0)) .none kV_BadNumber dc_BadNumber pm_BadNumber an_BadNumber (.ref cda_BadNumber) ct_BadNumber cc_BadNumber), sl_BadNumber⟩)
    (c_BadNumber : PySem.W.codeIn K (.ref cda_BadNumber) "BadNumber.__init__" = true)
    (lc_BadNumber : K.lookup cda_BadNumber = some ⟨ccl_BadNumber, cdd_BadNumber, .fields vs_BadNumber, ccs_BadNumber⟩)
    (v2_BadNumber : vs_BadNumber[2]? = some (.str file_BadNumber tf_BadNumber))
    (fl_BadNumber : ((P.main.file : Str) == file_BadNumber) = true)
    (cc_BadNumber : K.lookup cc_BadNumber = some ⟨cl_BadNumber, cld_BadNumber, .cell (some (.ref C_BadNumber)), csl_BadNumber⟩)
    (aC_TooMany : PySem.W.nsIn K mainGlobals "TooMany" = some (some (.ref C_TooMany)))
    (xL_TooMany : K.lookup C_TooMany = some (excClassObj nm_TooMany q_TooMany C_TooMany N_TooMany bs_TooMany bm_TooMany true sn_TooMany sub_TooMany ab_TooMany col_TooMany dd_TooMany m0_TooMany m1_TooMany m2_TooMany m3_TooMany m5_TooMany "ValueError.__new__"))
    (bm_TooMany : PySem.HandSPX.refsVE bm_TooMany = true)
    (sa_TooMany : PySem.W.findIn K (.ref C_TooMany) "__setattr__" = some (some (.builtin "object.__setattr__")))
    (ga_TooMany : PySem.W.findIn K (.ref C_TooMany) "__getattribute__" = some (some (.builtin "BaseException.__getattribute__")))
    (gg_TooMany : PySem.W.findIn K (.ref C_TooMany) "__getattr__" = some none)
    (no_kind_TooMany : PySem.W.findIn K (.ref C_TooMany) "kind" = some none)
    (no_limit_TooMany : PySem.W.findIn K (.ref C_TooMany) "limit" = some none)
    (iC_TooMany : PySem.W.findIn K (.ref C_TooMany) "__init__" = some (some (.ref fI_TooMany)))
    (tI_TooMany : PySem.W.typeIn K (.ref fI_TooMany) = some (.type "function"))
    (kC_TooMany : PySem.W.keepIn K (.ref C_TooMany) = true)
    (ex_TooMany : PySem.W.subIn K (.ref C_TooMany) (.type "BaseException") = some true)
    (ve_TooMany : PySem.W.subIn K (.ref C_TooMany) (.type "ValueError") = some true)
    (ty_TooMany : PySem.W.typeIn K (.ref C_TooMany) = some (.type "type"))
    (hd_TooMany : PySem.W.hasDictIn K C_TooMany = true)
    (sup_TooMany : PySem.W.ks_superIn K C_TooMany C_TooMany "__init__" = some (some (.builtin "ValueError.__init__")))
    (mro_TooMany : PySem.W.mroIn K C_TooMany (.ref C_TooMany) = some true)
    (su_TooMany : PySem.W.subIn K (.ref C_TooMany) (.ref C_TooMany) = some true)
    (ca_TooMany : PySem.W.findIn K (.ref C_TooMany) "__class__" = some (some (.builtin "object.__class__")))
    (mo_TooMany : PySem.W.mroIn K C_TooMany (.type "object") = some true)
    (l_TooMany : K.lookup fI_TooMany = some ⟨oc_TooMany, od_TooMany, .func (PySem.W.ksFn "__init__" "TooMany.__init__" (defArgs (inClass (topS 5) 0)) (defBody (inClass (topS 5) 0)) (defScope (inClass (topS 5) 0)) .none kV_TooMany dc_TooMany pm_TooMany an_TooMany (.ref cda_TooMany) ct_TooMany cc_TooMany), sl_TooMany⟩)
    (c_TooMany : PySem.W.codeIn K (.ref cda_TooMany) "TooMany.__init__" = true)
    (lc_TooMany : K.lookup cda_TooMany = some ⟨ccl_TooMany, cdd_TooMany, .fields vs_TooMany, ccs_TooMany⟩)
    (v2_TooMany : vs_TooMany[2]? = some (.str file_TooMany tf_TooMany))
    (fl_TooMany : ((P.main.file : Str) == file_TooMany) = true)
    (cc_TooMany : K.lookup cc_TooMany = some ⟨cl_TooMany, cld_TooMany, .cell (some (.ref C_TooMany)), csl_TooMany⟩)
    (aC_Ratio : PySem.W.nsIn K mainGlobals "Ratio" = some (some (.ref C_Ratio)))
    (pg_Ratio : PySem.W.plainGet K C_Ratio Str.empty = true)
    (hd_Ratio : PySem.W.hasDictIn K C_Ratio = true)
    (po_Ratio : PySem.W.plainOver K C_Ratio = true)
    (sa_Ratio : PySem.W.findIn K (.ref C_Ratio) "__setattr__" = some (some (.builtin "object.__setattr__")))
    (no_top_Ratio : PySem.W.findIn K (.ref C_Ratio) "top" = some none)
    (no_bottom_Ratio : PySem.W.findIn K (.ref C_Ratio) "bottom" = some none)
    (ca_Ratio : PySem.W.findIn K (.ref C_Ratio) "__class__" = some (some (.builtin "object.__class__")))
    (mo_Ratio : PySem.W.mroIn K C_Ratio (.type "object") = some true)
    (mk_Ratio : PySem.W.makesIn K C_Ratio = true)
    (kC_Ratio : PySem.W.keepIn K (.ref C_Ratio) = true)
    (a_Ratio___init__ : PySem.W.findIn K (.ref C_Ratio) "__init__" = some (some (.ref f_Ratio___init__)))
    (i_Ratio___init__ : PySem.W.isFn K (.ref f_Ratio___init__) = true)
    (l_Ratio___init__ : K.lookup f_Ratio___init__ = some ⟨oc_Ratio___init__, od_Ratio___init__, .func (PySem.W.fnOf "__init__" "Ratio.__init__" (defArgs s_Ratio___init__) (defBody s_Ratio___init__) (defScope s_Ratio___init__) (.ref dT_Ratio___init__) kV_Ratio___init__ dc_Ratio___init__ pm_Ratio___init__ an_Ratio___init__ cd_Ratio___init__ ct_Ratio___init__), sl_Ratio___init__⟩)
    (c_Ratio___init__ : PySem.W.codeIn K cd_Ratio___init__ "Ratio.__init__" = true)
    (k_Ratio___init__ : PySem.W.keepIn K (.ref f_Ratio___init__) = true)
    (dl_Ratio___init__ : K.lookup dT_Ratio___init__ = some ⟨doc_Ratio___init__, dd_Ratio___init__, .seq #[.int 1 dk0_Ratio___init__] dn_Ratio___init__, dsl_Ratio___init__⟩)
    (a_Ratio___str__ : PySem.W.findIn K (.ref C_Ratio) "__str__" = some (some (.ref f_Ratio___str__)))
    (i_Ratio___str__ : PySem.W.isFn K (.ref f_Ratio___str__) = true)
    (l_Ratio___str__ : K.lookup f_Ratio___str__ = some ⟨oc_Ratio___str__, od_Ratio___str__, .func (PySem.W.fnOf "__str__" "Ratio.__str__" (defArgs s_Ratio___str__) (defBody s_Ratio___str__) (defScope s_Ratio___str__) .none kV_Ratio___str__ dc_Ratio___str__ pm_Ratio___str__ an_Ratio___str__ cd_Ratio___str__ ct_Ratio___str__), sl_Ratio___str__⟩)
    (c_Ratio___str__ : PySem.W.codeIn K cd_Ratio___str__ "Ratio.__str__" = true)
    (k_Ratio___str__ : PySem.W.keepIn K (.ref f_Ratio___str__) = true)
    (k1_Ratio : PySem.W.kitOne K (.ref C_Ratio) (.ref C_Ratio) = some true)
    (k2_Ratio : PySem.W.kitOne K (.type "int") (.ref C_Ratio) = some false)
    (k3_Ratio : PySem.W.kitAny K (.ref C_Ratio) [.ref C_Ratio, .type "int"] = some true)
    (k4_Ratio : PySem.W.kitAny K (.type "int") [.ref C_Ratio, .type "int"] = some true)
    (si_Ratio : PySem.W.subIn K (.type "int") (.ref C_Ratio) = some false)
    (is_Ratio : PySem.W.subIn K (.ref C_Ratio) (.type "int") = some false)
    (kt_BadNumber_HeldError : PySem.W.kitOne K (.ref C_BadNumber) (.ref C_HeldError) = some true)
    (kt_TooMany_BadNumber : PySem.W.kitOne K (.ref C_TooMany) (.ref C_BadNumber) = some false)
    (kt_TooMany_HeldError : PySem.W.kitOne K (.ref C_TooMany) (.ref C_HeldError) = some true)
    (xN_BadNumber_TooMany : PySem.W.exmOne K (.ref C_BadNumber) (.ref C_TooMany) = some false) :
    ∃ fd : FuncData, (∀ (s : Shared) (v : Value), BindsTo s fd ⟨[v], []⟩ [("_law_script", v)]) ∧ ∀ base : Heap, K.In base → base.Ns mainGlobals mg → FnOk P w K mg base CX0 9 fa fd ["_law_script"] (spLaw K) := by
  have e := hfa.symm.trans (PySem.W.mg_of X G a_law)
  cases e
  have B : Bl mg := ⟨PySem.W.mg_none_of X G z_len, PySem.W.mg_none_of X G z_range, PySem.W.mg_none_of X G z_abs, PySem.W.mg_none_of X G z_sum, PySem.W.mg_none_of X G z_sorted, PySem.W.mg_none_of X G z_isinstance, PySem.W.mg_none_of X G z_zip, PySem.W.mg_none_of X G z_enumerate, PySem.W.mg_none_of X G z_reversed, PySem.W.mg_none_of X G z_int, PySem.W.mg_none_of X G z_str, PySem.W.mg_none_of X G z_list, PySem.W.mg_none_of X G z_tuple, PySem.W.mg_none_of X G z_bool, PySem.W.mg_none_of X G z_all, PySem.W.mg_none_of X G z_any, PySem.W.mg_none_of X G z_ValueError⟩
  have g_MOST := glo_int X G a_MOST
  have g_LARGEST := glo_int X G a_LARGEST
  have F__law_bag : Src K mg "_law_bag" s__law_bag ["_law_script"] := src_mk X G a__law_bag l__law_bag c__law_bag k__law_bag (fun _ _ _ _ _ _ us hl => match us, hl with | [_], _ => rfl)
  have F__law_draw : Src K mg "_law_draw" s__law_draw ["_law_bag_here", "_law_many"] := src_mk X G a__law_draw l__law_draw c__law_draw k__law_draw (fun _ _ _ _ _ _ us hl => match us, hl with | [_, _], _ => rfl)
  have F_common_divisor : Src K mg "common_divisor" s_common_divisor ["first", "second"] := src_mk X G a_common_divisor l_common_divisor c_common_divisor k_common_divisor (fun _ _ _ _ _ _ us hl => match us, hl with | [_, _], _ => rfl)
  have F_check_number : Src K mg "check_number" s_check_number ["number", "least", "most"] := src_mk X G a_check_number l_check_number c_check_number k_check_number (fun _ _ _ _ _ _ us hl => match us, hl with | [_, _, _], _ => rfl)
  have F_check_size : Src K mg "check_size" s_check_size ["rows"] := src_mk X G a_check_size l_check_size c_check_size k_check_size (fun _ _ _ _ _ _ us hl => match us, hl with | [_], _ => rfl)
  have F_check_row : Src K mg "check_row" s_check_row ["row"] := src_mk X G a_check_row l_check_row c_check_row k_check_row (fun _ _ _ _ _ _ us hl => match us, hl with | [_], _ => rfl)
  have F_lowered : Src K mg "lowered" s_lowered ["row"] := src_mk X G a_lowered l_lowered c_lowered k_lowered (fun _ _ _ _ _ _ us hl => match us, hl with | [_], _ => rfl)
  have F_combined : Src K mg "combined" s_combined ["row", "lead", "column"] := src_mk X G a_combined l_combined c_combined k_combined (fun _ _ _ _ _ _ us hl => match us, hl with | [_, _, _], _ => rfl)
  have F_lead_columns : Src K mg "lead_columns" s_lead_columns ["table", "columns"] := src_mk X G a_lead_columns l_lead_columns c_lead_columns k_lead_columns (fun _ _ _ _ _ _ us hl => match us, hl with | [_, _], _ => rfl)
  have F_barred : Src K mg "barred" s_barred ["rows", "wished", "columns"] := src_mk X G a_barred l_barred c_barred k_barred (fun _ _ _ _ _ _ us hl => match us, hl with | [_, _, _], _ => rfl)
  have F_solved : Src K mg "solved" s_solved ["rows", "wished"] := src_mk X G a_solved l_solved c_solved k_solved (fun _ _ _ _ _ _ us hl => match us, hl with | [_, _], _ => rfl)
  have F_solve : Src K mg "solve" s_solve ["rows", "wished"] := src_mk X G a_solve l_solve c_solve k_solve (fun _ _ _ _ _ _ us hl => match us, hl with | [_, _], _ => rfl)
  have F_rank_of : Src K mg "rank_of" s_rank_of ["rows"] := src_mk X G a_rank_of l_rank_of c_rank_of k_rank_of (fun _ _ _ _ _ _ us hl => match us, hl with | [_], _ => rfl)
  have F__law_divisor : Src K mg "_law_divisor" s__law_divisor ["_law_first", "_law_second"] := src_mk X G a__law_divisor l__law_divisor c__law_divisor k__law_divisor (fun _ _ _ _ _ _ us hl => match us, hl with | [_, _], _ => rfl)
  have F__law_int : Src K mg "_law_int" s__law_int ["_law_told"] := src_mk X G a__law_int l__law_int c__law_int k__law_int (fun _ _ _ _ _ _ us hl => match us, hl with | [_], _ => rfl)
  have F__law_gives : Src K mg "_law_gives" s__law_gives ["_law_numbers", "_law_rows", "_law_due_here"] := src_mk X G a__law_gives l__law_gives c__law_gives k__law_gives (fun _ _ _ _ _ _ us hl => match us, hl with | [_, _, _], _ => rfl)
  have F__law_ratios : Src K mg "_law_ratios" s__law_ratios ["_law_told", "_law_many"] := src_mk X G a__law_ratios l__law_ratios c__law_ratios k__law_ratios (fun _ _ _ _ _ _ us hl => match us, hl with | [_, _], _ => rfl)
  have F__law_solved : Src K mg "_law_solved" s__law_solved ["_law_told", "_law_rows", "_law_wished", "_law_columns"] := src_mk X G a__law_solved l__law_solved c__law_solved k__law_solved (fun _ _ _ _ _ _ us hl => match us, hl with | [_, _, _, _], _ => rfl)
  have F__law_barred : Src K mg "_law_barred" s__law_barred ["_law_told", "_law_rows", "_law_wished", "_law_columns"] := src_mk X G a__law_barred l__law_barred c__law_barred k__law_barred (fun _ _ _ _ _ _ us hl => match us, hl with | [_, _, _, _], _ => rfl)
  have F__law_due : Src K mg "_law_due" s__law_due ["_law_rows", "_law_wished", "_law_columns", "_law_ranked"] := src_mk X G a__law_due l__law_due c__law_due k__law_due (fun _ _ _ _ _ _ us hl => match us, hl with | [_, _, _, _], _ => rfl)
  have F__law_asked : Src K mg "_law_asked" s__law_asked ["_law_rows", "_law_wished", "_law_ranked"] := src_mk X G a__law_asked l__law_asked c__law_asked k__law_asked (fun _ _ _ _ _ _ us hl => match us, hl with | [_, _, _], _ => rfl)
  have g_HeldError := glo_ref X G aC_HeldError
  have nn_BadNumber : ∀ f ∈ (["number"] : List Str), PySem.W.findIn K (.ref C_BadNumber) f = some none := fun f hf => by
      simp only [List.mem_cons, List.not_mem_nil, or_false] at hf
      rcases hf with rfl
      · exact no_number_BadNumber
  have X_BadNumber : ErrTxt P K mg false "BadNumber" C_BadNumber fI_BadNumber ["number"] := err_mk (st := inClass (topS 4) 0) (fp := [("number", _, _, _, _)]) X G aC_BadNumber z_super xL_BadNumber bm_BadNumber sa_BadNumber ga_BadNumber gg_BadNumber nn_BadNumber
    iC_BadNumber tI_BadNumber kC_BadNumber ex_BadNumber ve_BadNumber ty_BadNumber hd_BadNumber sup_BadNumber mro_BadNumber su_BadNumber ca_BadNumber e_cg e_ct mo_BadNumber e_opq top l_BadNumber c_BadNumber lc_BadNumber v2_BadNumber fl_BadNumber cc_BadNumber rfl rfl rfl rfl (by decide +kernel) (by decide +kernel) (by decide +kernel) (by decide +kernel) (by decide +kernel) (by decide +kernel) (by decide +kernel) rfl rfl rfl
    (fun _ _ _ _ _ _ _ s x us hl => match us, hl with | [_], _ => .of_eq rfl) (fun x us hl => match us, hl with | [_], _ => ⟨by rfl, .cons (by rfl) (.nil)⟩) (.inl ⟨rfl, _, _, _, rfl⟩)
  have nn_TooMany : ∀ f ∈ (["kind", "limit"] : List Str), PySem.W.findIn K (.ref C_TooMany) f = some none := fun f hf => by
      simp only [List.mem_cons, List.not_mem_nil, or_false] at hf
      rcases hf with rfl | rfl
      · exact no_kind_TooMany
      · exact no_limit_TooMany
  have X_TooMany : ErrTxt P K mg true "TooMany" C_TooMany fI_TooMany ["kind", "limit"] := err_mk (st := inClass (topS 5) 0) (fp := [("kind", _, _, _, _), ("limit", _, _, _, _)]) X G aC_TooMany z_super xL_TooMany bm_TooMany sa_TooMany ga_TooMany gg_TooMany nn_TooMany
    iC_TooMany tI_TooMany kC_TooMany ex_TooMany ve_TooMany ty_TooMany hd_TooMany sup_TooMany mro_TooMany su_TooMany ca_TooMany e_cg e_ct mo_TooMany e_opq top l_TooMany c_TooMany lc_TooMany v2_TooMany fl_TooMany cc_TooMany rfl rfl rfl rfl (by decide +kernel) (by decide +kernel) (by decide +kernel) (by decide +kernel) (by decide +kernel) (by decide +kernel) (by decide +kernel) rfl rfl rfl
    (fun _ _ _ _ _ _ _ s x us hl => match us, hl with | [_, _], _ => .of_eq rfl) (fun x us hl => match us, hl with | [_, _], _ => ⟨by rfl, .cons (by rfl) (.cons (by rfl) (.nil))⟩) (.inr ⟨rfl, _, _, _, _, _, _, rfl, by decide, rfl⟩)
  have FI_Ratio : SrcI K C_Ratio "Ratio.__init__" s_Ratio___init__ ["self", "top", "bottom"] := srcID_mk (dvs := [(.int 1)]) (its := [.int 1 dk0_Ratio___init__]) mk_Ratio kC_Ratio a_Ratio___init__ i_Ratio___init__ l_Ratio___init__ c_Ratio___init__ k_Ratio___init__ dl_Ratio___init__ (.cons ⟨_, rfl⟩ (.nil)) (by simp) (fun _ _ _ _ _ _ _ us its h1 h2 => match us, its, h1, h2 with | [_, _, _], [_], _, _ => ⟨_, rfl, rfl⟩)
  have LI_Ratio : DflI K C_Ratio ["self", "top", "bottom"] [(.int 1)] := dflI_mk (its := [.int 1 dk0_Ratio___init__]) 2 a_Ratio___init__ l_Ratio___init__ c_Ratio___init__ k_Ratio___init__ dl_Ratio___init__ (.cons ⟨_, rfl⟩ (.nil)) (by simp) (by decide) (fun _ _ _ _ _ _ _ us its h1 h2 => match us, its, h1, h2 with | [_, _], [_], _, _ => ⟨_, rfl, rfl⟩)
  have FM_Ratio___str__ : SrcM K C_Ratio "__str__" "Ratio.__str__" s_Ratio___str__ ["self"] := srcM_mk a_Ratio___str__ i_Ratio___str__ l_Ratio___str__ c_Ratio___str__ k_Ratio___str__ (fun _ _ _ _ _ _ us hl => match us, hl with | [_], _ => rfl)
  have m_Ratio := PySem.W.mg_of X G aC_Ratio
  have CL_Ratio : Cls K C_Ratio := ⟨pg_Ratio, hd_Ratio, po_Ratio, sa_Ratio⟩
  have no_Ratio : ∀ f ∈ (["top", "bottom"] : List Str), NoAttr K C_Ratio f := fun f hf => by
    simp only [List.mem_cons, List.not_mem_nil, or_false] at hf
    rcases hf with rfl | rfl
    · exact no_top_Ratio
    · exact no_bottom_Ratio
  have T_Ratio : ClsA K mg C_Ratio "Ratio" ["top", "bottom"] := ⟨⟨CL_Ratio, no_Ratio⟩, m_Ratio, ⟨CL_Ratio, ca_Ratio, e_cg, e_ct, mo_Ratio⟩, k1_Ratio, k2_Ratio, k3_Ratio, k4_Ratio, ⟨si_Ratio, is_Ratio⟩⟩
  refine ⟨PySem.W.fnOf "law" "law" (defArgs s_law) (defBody s_law) (defScope s_law) .none kV_law dc_law pm_law an_law cd_law ct_law, fun s v => .of_eq rfl, fun base hK hN => ?_⟩
  obtain ⟨cs, hcs⟩ : ∃ cs : EK → Addr, cs = fun k => match k with | .tooMany => C_TooMany | .badWord => C_BadNumber | .double => C_BadNumber | .badNumber => C_BadNumber | .empty => C_BadNumber | .unknown => C_BadNumber | .inUse => C_BadNumber | .badState => C_BadNumber | .notReady => C_BadNumber | .notSound => C_BadNumber | .badPair => C_BadNumber | .badText => C_BadNumber | .noUndo => C_BadNumber := ⟨_, rfl⟩
  have X_BadNumber : ErrTxt P K mg false "BadNumber" (cs .badNumber) fI_BadNumber ["number"] := by rw [hcs]; exact X_BadNumber
  have X_TooMany : ErrTxt P K mg true "TooMany" (cs .tooMany) fI_TooMany ["kind", "limit"] := by rw [hcs]; exact X_TooMany
  have kt_BadNumber_HeldError : PySem.W.kitOne K (.ref (cs .badNumber)) (.ref C_HeldError) = some true := by rw [hcs]; exact kt_BadNumber_HeldError
  have kt_TooMany_BadNumber : PySem.W.kitOne K (.ref (cs .tooMany)) (.ref (cs .badNumber)) = some false := by rw [hcs]; exact kt_TooMany_BadNumber
  have kt_TooMany_HeldError : PySem.W.kitOne K (.ref (cs .tooMany)) (.ref C_HeldError) = some true := by rw [hcs]; exact kt_TooMany_HeldError
  have xN_BadNumber_TooMany : PySem.W.exmOne K (.ref (cs .badNumber)) (.ref (cs .tooMany)) = some false := by rw [hcs]; exact xN_BadNumber_TooMany
  have g_BadNumber : Glo mg "BadNumber" (.ref (cs .badNumber)) := ⟨_, X_BadNumber.gC, rfl⟩
  have D__law_bag := ok__law_bag (P := P) (w := w) (base := base) (k := 0) B F__law_bag
  have D__law_draw := ok__law_draw (P := P) (w := w) (base := base) (k := 0) B F__law_draw
  have D_common_divisor := ok_common_divisor (P := P) (w := w) (base := base) (cs := cs) (k := 0) B  F_common_divisor
  have DI_Ratio := ok_Ratio___init__ (P := P) (w := w) (base := base) (cs := cs) (k := 1) B T_Ratio (D_common_divisor.mono (by decide)) X_BadNumber FI_Ratio
  have DM_Ratio___str__ := ok_Ratio___str__ (P := P) (w := w) (base := base) (cs := cs) (k := 0) B T_Ratio FM_Ratio___str__
  have D_check_number := ok_check_number (P := P) (w := w) (base := base) (cs := cs) (k := 0) B X_BadNumber F_check_number
  have D_check_size := ok_check_size (P := P) (w := w) (base := base) (cs := cs) (k := 0) B g_MOST X_TooMany F_check_size
  have D_check_row := ok_check_row (P := P) (w := w) (base := base) (cs := cs) (k := 1) B (D_check_number.mono (by decide)) g_LARGEST F_check_row
  have D_lowered := ok_lowered (P := P) (w := w) (base := base) (cs := cs) (k := 1) B (D_common_divisor.mono (by decide)) F_lowered
  have D_combined := ok_combined (P := P) (w := w) (base := base) (cs := cs) (k := 2) B (D_lowered.mono (by decide)) F_combined
  have D_lead_columns := ok_lead_columns (P := P) (w := w) (base := base) (cs := cs) (k := 3) B (D_combined.mono (by decide)) F_lead_columns
  have D_barred := ok_barred (P := P) (w := w) (base := base) (cs := cs) (k := 3) B (D_lead_columns.mono (by decide)) m_Ratio (DI_Ratio.mono (by decide)) F_barred
  have D_solved := ok_solved (P := P) (w := w) (base := base) (cs := cs) (k := 4) B (D_lead_columns.mono (by decide)) (D_barred.mono (by decide)) LI_Ratio m_Ratio (DI_Ratio.mono (by decide)) F_solved
  have D_solve := ok_solve (P := P) (w := w) (base := base) (cs := cs) (k := 6) B (D_check_size.mono (by decide)) (D_check_row.mono (by decide)) (D_solved.mono (by decide)) F_solve
  have D_rank_of := ok_rank_of (P := P) (w := w) (base := base) (cs := cs) (k := 4) B (D_check_size.mono (by decide)) (D_check_row.mono (by decide)) (D_lead_columns.mono (by decide)) F_rank_of
  have D__law_divisor := ok__law_divisor (P := P) (w := w) (base := base) (cs := cs) (k := 0) B  F__law_divisor
  have D__law_int := ok__law_int (P := P) (w := w) (base := base) (cs := cs) (k := 0) B  F__law_int
  have D__law_gives := ok__law_gives (P := P) (w := w) (base := base) (cs := cs) (k := 0) B T_Ratio F__law_gives
  have D__law_ratios := ok__law_ratios (P := P) (w := w) (base := base) (cs := cs) (k := 1) B T_Ratio (D__law_int.mono (by decide)) (D__law_divisor.mono (by decide)) F__law_ratios
  have D__law_solved := ok__law_solved (P := P) (w := w) (base := base) (cs := cs) (k := 2) B (D__law_ratios.mono (by decide)) (D__law_gives.mono (by decide)) F__law_solved
  have D__law_barred := ok__law_barred (P := P) (w := w) (base := base) (cs := cs) (k := 2) B (D__law_ratios.mono (by decide)) (D__law_gives.mono (by decide)) F__law_barred
  have D__law_due := ok__law_due (P := P) (w := w) (base := base) (cs := cs) (k := 0) B  F__law_due
  have D__law_asked := ok__law_asked (P := P) (w := w) (base := base) (cs := cs) (k := 7) B (D_rank_of.mono (by decide)) (D_solve.mono (by decide)) g_HeldError g_BadNumber X_TooMany X_BadNumber kt_BadNumber_HeldError kt_TooMany_BadNumber kt_TooMany_HeldError xN_BadNumber_TooMany F__law_asked
  exact ok_law (P := P) (w := w) (base := base) (cs := cs) (k := 7) B (D__law_draw.mono (by decide)) (D__law_due.mono (by decide)) (D__law_asked.mono (by decide)) (D__law_int.mono (by decide)) (D__law_solved.mono (by decide)) (D__law_barred.mono (by decide)) (D__law_bag.mono (by decide)) (fun_mk l_law c_law k_law) law_pure
theorem walk {l : PySem.W.OpenLaw} {q : Program} {loose : List Str} {XP : (Str → Option Value) → Heap → Prop} {YP : World → Heap → Prop} {d : DefRec} {K : Params → PySem.W.Frag} (hn : l.most = some 63) (hdf : d.params.defaults = [])
    (hY : ∀ (w : World) (h : Heap), YP w h → (K w.params).In h)
    (F : ∀ (w : World) (mg : Str → Option Value) (fa : Addr) (h : Heap), (K w.params).In h → h.Ns mainGlobals mg → mg d.name = some (.ref fa) →
      ∃ fd : FuncData, (∀ (s : Shared) (u : Value), BindsTo s fd ⟨[u], []⟩ [("_law_script", u)]) ∧ ∀ base : Heap, (K w.params).In base → base.Ns mainGlobals mg → FnOk l.prog w (K w.params) mg base CX0 9 fa fd ["_law_script"] (spLaw (K w.params))) :
    PySem.W.WalkO q loose XP YP l.row.toRowW d [] (fun f vs => PySem.call f vs) :=
  L2.walk_of (n := 63) (k := 9) (x := "_law_script") (CX := fun _ => CX0) (sp := fun w => spLaw (K w.params)) hn (by decide) hdf ⟨rfl, by decide, by decide⟩ hY F (fun _ _ a ns hl _ hS => ⟨a, ns, rfl, hS, hl, fun _ => rfl⟩) fun _ _ _ _ _ z => z
end Held
open PySem PySem.W PyProof.Rows in
set_option maxRecDepth 100000 in
set_option maxHeartbeats 0 in
theorem PySem.Challenge.cw_heldsteps_k12_solve_refusals_holds : PySem.Challenge.rw_heldsteps_k12_solve_refusals.Holds := by
  w_on; o_law; k_head; (case hw => w_witness2)
  k_fill
  refine Held.walk (l := PySem.Challenge.rw_heldsteps_k12_solve_refusals) rfl rfl (fun w h Y => PySem.W.kIn_of Y) ?F
  case F =>
    intro w mg fa h KX G hmg
    refine' Held.all_mk KX G hmg (by decide +kernel) ?z_len ?z_range ?z_abs ?z_sum ?z_sorted ?z_isinstance ?z_zip ?z_enumerate ?z_reversed ?z_int ?z_str ?z_list ?z_tuple ?z_bool ?z_all ?z_any ?z_ValueError ?z_super ?a_MOST ?a_LARGEST ?a__law_bag ?l__law_bag ?c__law_bag ?k__law_bag ?a__law_draw ?l__law_draw ?c__law_draw ?k__law_draw ?a_common_divisor ?l_common_divisor ?c_common_divisor ?k_common_divisor ?a_check_number ?l_check_number ?c_check_number ?k_check_number ?a_check_size ?l_check_size ?c_check_size ?k_check_size ?a_check_row ?l_check_row ?c_check_row ?k_check_row ?a_lowered ?l_lowered ?c_lowered ?k_lowered ?a_combined ?l_combined ?c_combined ?k_combined ?a_lead_columns ?l_lead_columns ?c_lead_columns ?k_lead_columns ?a_barred ?l_barred ?c_barred ?k_barred ?a_solved ?l_solved ?c_solved ?k_solved ?a_solve ?l_solve ?c_solve ?k_solve ?a_rank_of ?l_rank_of ?c_rank_of ?k_rank_of ?a__law_divisor ?l__law_divisor ?c__law_divisor ?k__law_divisor ?a__law_int ?l__law_int ?c__law_int ?k__law_int ?a__law_gives ?l__law_gives ?c__law_gives ?k__law_gives ?a__law_ratios ?l__law_ratios ?c__law_ratios ?k__law_ratios ?a__law_solved ?l__law_solved ?c__law_solved ?k__law_solved ?a__law_barred ?l__law_barred ?c__law_barred ?k__law_barred ?a__law_due ?l__law_due ?c__law_due ?k__law_due ?a__law_asked ?l__law_asked ?c__law_asked ?k__law_asked ?a_law ?l_law ?c_law ?k_law ?aC_HeldError ?e_opq ?e_cg ?e_ct ?aC_BadNumber ?xL_BadNumber ?bm_BadNumber ?sa_BadNumber ?ga_BadNumber ?gg_BadNumber ?no_number_BadNumber ?iC_BadNumber ?tI_BadNumber ?kC_BadNumber ?ex_BadNumber ?ve_BadNumber ?ty_BadNumber ?hd_BadNumber ?sup_BadNumber ?mro_BadNumber ?su_BadNumber ?ca_BadNumber ?mo_BadNumber ?l_BadNumber ?c_BadNumber ?lc_BadNumber ?v2_BadNumber ?fl_BadNumber ?cc_BadNumber ?aC_TooMany ?xL_TooMany ?bm_TooMany ?sa_TooMany ?ga_TooMany ?gg_TooMany ?no_kind_TooMany ?no_limit_TooMany ?iC_TooMany ?tI_TooMany ?kC_TooMany ?ex_TooMany ?ve_TooMany ?ty_TooMany ?hd_TooMany ?sup_TooMany ?mro_TooMany ?su_TooMany ?ca_TooMany ?mo_TooMany ?l_TooMany ?c_TooMany ?lc_TooMany ?v2_TooMany ?fl_TooMany ?cc_TooMany ?aC_Ratio ?pg_Ratio ?hd_Ratio ?po_Ratio ?sa_Ratio ?no_top_Ratio ?no_bottom_Ratio ?ca_Ratio ?mo_Ratio ?mk_Ratio ?kC_Ratio ?a_Ratio___init__ ?i_Ratio___init__ ?l_Ratio___init__ ?c_Ratio___init__ ?k_Ratio___init__ ?dl_Ratio___init__ ?a_Ratio___str__ ?i_Ratio___str__ ?l_Ratio___str__ ?c_Ratio___str__ ?k_Ratio___str__ ?k1_Ratio ?k2_Ratio ?k3_Ratio ?k4_Ratio ?si_Ratio ?is_Ratio ?kt_BadNumber_HeldError ?kt_TooMany_BadNumber ?kt_TooMany_HeldError ?xN_BadNumber_TooMany
    (case z_len => k_is)
    (case z_range => k_is)
    (case z_abs => k_is)
    (case z_sum => k_is)
    (case z_sorted => k_is)
    (case z_isinstance => k_is)
    (case z_zip => k_is)
    (case z_enumerate => k_is)
    (case z_reversed => k_is)
    (case z_int => k_is)
    (case z_str => k_is)
    (case z_list => k_is)
    (case z_tuple => k_is)
    (case z_bool => k_is)
    (case z_all => k_is)
    (case z_any => k_is)
    (case z_ValueError => k_is)
    (case z_super => k_is)
    (case a_MOST => k_is)
    (case a_LARGEST => k_is)
    (case a__law_bag => k_is)
    (case l__law_bag => k_is)
    (case c__law_bag => k_is)
    (case k__law_bag => k_is)
    (case a__law_draw => k_is)
    (case l__law_draw => k_is)
    (case c__law_draw => k_is)
    (case k__law_draw => k_is)
    (case a_common_divisor => k_is)
    (case l_common_divisor => k_is)
    (case c_common_divisor => k_is)
    (case k_common_divisor => k_is)
    (case a_check_number => k_is)
    (case l_check_number => k_is)
    (case c_check_number => k_is)
    (case k_check_number => k_is)
    (case a_check_size => k_is)
    (case l_check_size => k_is)
    (case c_check_size => k_is)
    (case k_check_size => k_is)
    (case a_check_row => k_is)
    (case l_check_row => k_is)
    (case c_check_row => k_is)
    (case k_check_row => k_is)
    (case a_lowered => k_is)
    (case l_lowered => k_is)
    (case c_lowered => k_is)
    (case k_lowered => k_is)
    (case a_combined => k_is)
    (case l_combined => k_is)
    (case c_combined => k_is)
    (case k_combined => k_is)
    (case a_lead_columns => k_is)
    (case l_lead_columns => k_is)
    (case c_lead_columns => k_is)
    (case k_lead_columns => k_is)
    (case a_barred => k_is)
    (case l_barred => k_is)
    (case c_barred => k_is)
    (case k_barred => k_is)
    (case a_solved => k_is)
    (case l_solved => k_is)
    (case c_solved => k_is)
    (case k_solved => k_is)
    (case a_solve => k_is)
    (case l_solve => k_is)
    (case c_solve => k_is)
    (case k_solve => k_is)
    (case a_rank_of => k_is)
    (case l_rank_of => k_is)
    (case c_rank_of => k_is)
    (case k_rank_of => k_is)
    (case a__law_divisor => k_is)
    (case l__law_divisor => k_is)
    (case c__law_divisor => k_is)
    (case k__law_divisor => k_is)
    (case a__law_int => k_is)
    (case l__law_int => k_is)
    (case c__law_int => k_is)
    (case k__law_int => k_is)
    (case a__law_gives => k_is)
    (case l__law_gives => k_is)
    (case c__law_gives => k_is)
    (case k__law_gives => k_is)
    (case a__law_ratios => k_is)
    (case l__law_ratios => k_is)
    (case c__law_ratios => k_is)
    (case k__law_ratios => k_is)
    (case a__law_solved => k_is)
    (case l__law_solved => k_is)
    (case c__law_solved => k_is)
    (case k__law_solved => k_is)
    (case a__law_barred => k_is)
    (case l__law_barred => k_is)
    (case c__law_barred => k_is)
    (case k__law_barred => k_is)
    (case a__law_due => k_is)
    (case l__law_due => k_is)
    (case c__law_due => k_is)
    (case k__law_due => k_is)
    (case a__law_asked => k_is)
    (case l__law_asked => k_is)
    (case c__law_asked => k_is)
    (case k__law_asked => k_is)
    (case a_law => k_is)
    (case l_law => k_is)
    (case c_law => k_is)
    (case k_law => k_is)
    (case aC_HeldError => k_is)
    (case e_opq => k_is)
    (case e_cg => k_is)
    (case e_ct => k_is)
    (case aC_BadNumber => k_is)
    (case xL_BadNumber => k_is)
    (case bm_BadNumber => rfl)
    (case sa_BadNumber => k_is)
    (case ga_BadNumber => k_is)
    (case gg_BadNumber => k_is)
    (case no_number_BadNumber => k_is)
    (case iC_BadNumber => k_is)
    (case tI_BadNumber => k_is)
    (case kC_BadNumber => k_is)
    (case ex_BadNumber => k_is)
    (case ve_BadNumber => k_is)
    (case ty_BadNumber => k_is)
    (case hd_BadNumber => k_is)
    (case sup_BadNumber => ks_is)
    (case mro_BadNumber => k_is)
    (case su_BadNumber => first | rfl | k_is)
    (case ca_BadNumber => k_is)
    (case mo_BadNumber => k_is)
    (case l_BadNumber => k_is)
    (case c_BadNumber => k_is)
    (case lc_BadNumber => k_is)
    (case v2_BadNumber => rfl)
    (case fl_BadNumber => first | rfl | decide +kernel)
    (case cc_BadNumber => k_is)
    (case aC_TooMany => k_is)
    (case xL_TooMany => k_is)
    (case bm_TooMany => rfl)
    (case sa_TooMany => k_is)
    (case ga_TooMany => k_is)
    (case gg_TooMany => k_is)
    (case no_kind_TooMany => k_is)
    (case no_limit_TooMany => k_is)
    (case iC_TooMany => k_is)
    (case tI_TooMany => k_is)
    (case kC_TooMany => k_is)
    (case ex_TooMany => k_is)
    (case ve_TooMany => k_is)
    (case ty_TooMany => k_is)
    (case hd_TooMany => k_is)
    (case sup_TooMany => ks_is)
    (case mro_TooMany => k_is)
    (case su_TooMany => first | rfl | k_is)
    (case ca_TooMany => k_is)
    (case mo_TooMany => k_is)
    (case l_TooMany => k_is)
    (case c_TooMany => k_is)
    (case lc_TooMany => k_is)
    (case v2_TooMany => rfl)
    (case fl_TooMany => first | rfl | decide +kernel)
    (case cc_TooMany => k_is)
    (case aC_Ratio => k_is)
    (case pg_Ratio => k_is)
    (case hd_Ratio => k_is)
    (case po_Ratio => k_is)
    (case sa_Ratio => k_is)
    (case no_top_Ratio => k_is)
    (case no_bottom_Ratio => k_is)
    (case ca_Ratio => k_is)
    (case mo_Ratio => k_is)
    (case mk_Ratio => k_is)
    (case kC_Ratio => k_is)
    (case a_Ratio___init__ => k_is)
    (case i_Ratio___init__ => k_is)
    (case l_Ratio___init__ => k_is)
    (case c_Ratio___init__ => k_is)
    (case k_Ratio___init__ => k_is)
    (case dl_Ratio___init__ => k_is)
    (case a_Ratio___str__ => k_is)
    (case i_Ratio___str__ => k_is)
    (case l_Ratio___str__ => k_is)
    (case c_Ratio___str__ => k_is)
    (case k_Ratio___str__ => k_is)
    (case k1_Ratio => kit_is)
    (case k2_Ratio => kit_is)
    (case k3_Ratio => kit_is)
    (case k4_Ratio => kit_is)
    (case si_Ratio => k_is)
    (case is_Ratio => k_is)
    (case kt_BadNumber_HeldError => kit_is)
    (case kt_TooMany_BadNumber => kit_is)
    (case kt_TooMany_HeldError => kit_is)
    (case xN_BadNumber_TooMany => first | rfl | decide +kernel | k_is)
#print axioms PySem.Challenge.cw_heldsteps_k12_solve_refusals_holds
