import PyProof.Rows.All
import Wide.All
import OpenK.AllK
import Wide.FinOn
import PyProof.EqAt
import PyProof.EqKinds
import PyProof.TupleCall
import KE.KExcSuper
import KE.KExcIs
import HandS.ForMost
import HandS.ForExc
import HandS.ExcInit
import HandS.ExcField
import HandS.ExcIs
import HandS.TryMany
import HandS.Walk
import HandS.Wide
import HandS.EndBits
import HandS.Flow
import HandS.Codes
import HandS.IsInst
import HandS.More
import HandS.Conv
import HandS.DictTup
import KE.KDictWalk
import HandS.Style
import HandS.Text
import HandS.Steps
import HandS.CallLocal
import HandS.TupLe
import HandS.TupAny
import HandS.Zip
import HandS.FStr
import HandS.Star
import HandS.DictComp
import PyProof.EqLayable
import HandS.Iter
import HandS.Strs
import PyProof.Rows.StrMul
import HandS.CallSlots
import HandS.Defaults
import HandS.Deep
import KE.KOpsOwn
import KE.KFmtOwn
import HandS.TupLen
import HandS.WordsDict
import HandS.MakeKwOnly
import HandS.ClsMeth
import HandS.HotCalls
import HandS.SetFor
import PyProof.P3Eq
import HandS.RaiseMore
import PyProof.ReprRoads
import PySem.Challenge.RW_heldsteps_k17_tally_values
set_option Elab.async false
set_option linter.all false
set_option maxRecDepth 100000
set_option maxHeartbeats 4000000
namespace PySem
namespace HErr
open PySem.W PySem.Calls PyProof.Rows PySem.HandSPX
abbrev FP := Str × Pos × Pos × Pos × Pos
def stF (q : FP) : Stmt := .Assign [.Attribute (.Name "self" q.2.1) q.1 q.2.2.1] (.Name q.1 q.2.2.2.1) q.2.2.2.2
def stS (msg : Expr) (p1 p2 p3 p4 p5 : Pos) : Stmt := .Expr (.Call (.Attribute (.Call (.Name "super" p1) [] [] p2) "__init__" p3) [msg] [] p4) p5
section
variable {prog : Program} {w : World} {A : Around} {E : Value → Shared → Prop} {s : Shared} {K : Frag} {C : Addr}
/-- what is known of the class for its stores -/
structure ClsK (K : Frag) (C : Addr) (fs : List Str) : Prop where
  cls : ∃ nm q N bs bm sn sub ab col dd k0 k1 k2 k3 k5, K.lookup C = some (excClassObj nm q C N bs bm true sn sub ab col dd k0 k1 k2 k3 k5 "ValueError.__new__") ∧ refsVE bm = true
  sa : findIn K (.ref C) "__setattr__" = some (some (.builtin "object.__setattr__"))
  noN : ∀ f ∈ fs, findIn K (.ref C) f = some none
theorem ClsK.data {fs : List Str} (T : ClsK K C fs) : ∃ cd, clsIn K C = some cd ∧ refsVE cd.mro = true ∧ cd.hasDict = true := by
  obtain ⟨nm, q, N, bs, bm, sn, sub, ab, col, dd, k0, k1, k2, k3, k5, hC, hbm⟩ := T.cls
  exact ⟨{ name := nm, bases := bs, mro := .ref C :: bm, ns := N, qualname := q, hasDict := true, slotNames := sn, subclasses := sub, abstract := ab, collection := col, hasDel := false }, by unfold clsIn; rw [hC] <;> rfl, hbm, rfl⟩
theorem ld {M : Model} {env : Env} {m : Str → Option Value} {x : Str} {pos : Pos} {v : Value} {Q : Value → Shared → Prop} (hn : s.heap.Ns env.locals m) (hv : m x = some v) (h : Q v s)
    (hk : env.scope.kind = .function) (hl : env.kindOf x = some .local) (hd : (x == ("__debug__" : Str)) = false) :
    wpAny M A (eval (.Name x pos) env) Q E s := wpAny_Name (wpAny_loadName_local hk hl hn hv h) hd
theorem swaps_attr (env : Env) (q : FP) : swapsWith (.Name q.1 q.2.2.2.1) (some (.Attribute (.Name "self" q.2.1) q.1 q.2.2.1)) q.2.2.2.2.line env = pure false := rfl
/-- the stores behind the first -/
theorem stores_old {names : List Str} (T : ClsK K C names) {env : Env} (hk : env.scope.kind = .function) (hself : env.kindOf "self" = some .local) {m : Str → Option Value} {x dx t0 : Addr} (hmx : m "self" = some (.ref x)) :
    ∀ (fs : List FP) (us : List Value) (vs : List L2.V) (hv : L2.Vals vs us) (hfn : ∀ q ∈ fs, q.1 ∈ names ∧ env.kindOf q.1 = some .local ∧ (q.1 == ("__debug__" : Str)) = false) (hm : Paired (fun (q : FP) u => m q.1 = some u) fs us) (fV : List (Str × L2.V)) (mA : Str → Option Value) (s : Shared) (Q : Flow → Shared → Prop),
      K.In s.heap → s.heap.Ns env.locals m → env.locals ≠ dx → K.lookup dx = none →
      s.heap.get? x = some { cls := .ref C, dict := some dx, data := .fields #[.ref t0, .none, .none, .none, .bool false, .none] } → s.heap.Ns1 dx mA → (∀ f, L2.RelO (fV.lookup f) (mA f)) → fV.length + fs.length ≤ 900 →
      (∀ h' tk mB, (∀ b o, b ≠ dx → s.heap.get? b = some o → h'.get? b = some o) → h'.Ns1 dx mB → (∀ f, L2.RelO ((((fs.map (·.1)).zip vs).reverse ++ fV).lookup f) (mB f)) → Q .next { s with heap := h', toks := tk }) →
      wpAny (model prog w) A (execs (fs.map stF) env) Q E s
  | [], us, vs, hv, hfn, hm, fV, mA, s, Q, X, hn, hL, hKd, hx, hns, hr, hl, hq => by
    refine wpAny_execs_nil ?_
    have := hq s.heap s.toks mA (fun _ _ _ e => e) hns (by simpa using hr)
    exact this
  | q :: fs, us, vs, hv, hfn, hm, fV, mA, s, Q, X, hn, hL, hKd, hx, hns, hr, hl, hq => by
    cases hm with
    | cons hu hm' =>
      rename_i u us'
      cases hv with
      | cons ru hv' =>
        rename_i v vs'
        obtain ⟨hmem, hloc, hdb⟩ := hfn q (List.mem_cons_self ..)
        obtain ⟨cd, hcd, hmro, hhd⟩ := T.data
        have hw := L2.within_of hr
        obtain ⟨hp, g, d, tk, os⟩ := s
        obtain ⟨oD, _, _, hoD, _, _⟩ := hns.count hw
        show wpAny _ _ (execs (stF q :: fs.map stF) env) _ _ _
        refine wpAny_execs_cons (plainObj_wpAny_Assign_Attribute ?_ (swaps_attr env q))
        refine ld hn hu (ld hn hmx ?_ hk hself (by decide)) hk hloc hdb
        refine set_plain X (ox := { cls := .ref C, dict := some dx, data := .fields #[.ref t0, .none, .none, .none, .bool false, .none] }) (od := some oD) ⟨hx, rfl, rfl, hoD⟩ T.sa ?_
        refine PySem.OEX.osa_old X hx hns hw (by rw [List.length_map]; omega) hcd hmro hhd (T.noN _ hmem) (fun h' tk' k hn' => ?_)
        have hxd : x ≠ dx := fun z => by
          obtain ⟨o, es, ep, e1, e2, _⟩ := hns
          rw [← z, hx] at e1
          cases e1
          cases e2
        refine stores_old T hk hself hmx fs us' vs' hv' (fun q' hq' => hfn q' (List.mem_cons_of_mem _ hq')) hm' ((q.1, v) :: fV) _ ⟨h', g, d, tk', os⟩ Q
          (fun a o e => k a o (fun z => by rw [z, hKd] at e; cases e) (X a o e)) ?_ hL hKd (k _ _ hxd hx) hn' (L2.relO_put ru hr) (by simp only [List.length_cons] at hl ⊢; omega) (fun h2 tk2 mB k2 hn2 r2 => ?_)
        · obtain ⟨o, es, ep, e1, e2⟩ := hn
          exact ⟨o, es, ep, k _ _ hL e1, e2⟩
        · refine hq h2 tk2 mB (fun b o hb e => k2 b o hb (k b o hb e)) hn2 fun f => ?_
          have := r2 f
          simpa using this
/-- all stores: from an exception without a dict -/
theorem stores_new {names : List Str} (T : ClsK K C names) {env : Env} (hk : env.scope.kind = .function) (hself : env.kindOf "self" = some .local) {m : Str → Option Value} {x t0 : Addr} (hmx : m "self" = some (.ref x))
    (q : FP) (fs : List FP) (us : List Value) (vs : List L2.V) (hv : L2.Vals vs us) (hfn : ∀ q' ∈ q :: fs, q'.1 ∈ names ∧ env.kindOf q'.1 = some .local ∧ (q'.1 == ("__debug__" : Str)) = false) (hm : Paired (fun (q : FP) u => m q.1 = some u) (q :: fs) us) (s : Shared) (Q : Flow → Shared → Prop)
    (X : K.In s.heap) (hn : s.heap.Ns env.locals m) (hLx : env.locals ≠ x) (hKx : K.lookup x = none)
    (hx : s.heap.get? x = some { cls := .ref C, data := .fields #[.ref t0, .none, .none, .none, .bool false, .none] }) (hl : fs.length ≤ 800)
    (hq : ∀ h' tk dx mB, (∀ b o, b ≠ x → s.heap.get? b = some o → h'.get? b = some o) → s.heap.objs.size ≤ dx → dx ≠ x → h'.get? x = some { cls := .ref C, dict := some dx, data := .fields #[.ref t0, .none, .none, .none, .bool false, .none] } →
      h'.Ns1 dx mB → (∀ f, L2.RelO (((((q :: fs).map (·.1)).zip vs).reverse).lookup f) (mB f)) → Q .next { s with heap := h', toks := tk }) :
    wpAny (model prog w) A (execs ((q :: fs).map stF) env) Q E s := by
  cases hm with
  | cons hu hm' =>
    rename_i u us'
    cases hv with
    | cons ru hv' =>
      rename_i v vs'
      obtain ⟨hmem, hloc, hdb⟩ := hfn q (List.mem_cons_self ..)
      obtain ⟨cd, hcd, hmro, hhd⟩ := T.data
      obtain ⟨hp, g, d, tk, os⟩ := s
      show wpAny _ _ (execs (stF q :: fs.map stF) env) _ _ _
      refine wpAny_execs_cons (plainObj_wpAny_Assign_Attribute ?_ (swaps_attr env q))
      refine ld hn hu (ld hn hmx ?_ hk hself (by decide)) hk hloc hdb
      refine set_plain X (ox := { cls := .ref C, dict := none, data := .fields #[.ref t0, .none, .none, .none, .bool false, .none] }) (od := none) ⟨hx, rfl, rfl, trivial⟩ T.sa ?_
      refine exc_osa X hx hcd hmro hhd (T.noN _ hmem) (fun h' tk' dx k dn dne hx' hn' => ?_)
      have hbig : ∀ {b : Addr} {o : Obj}, hp.get? b = some o → b ≠ dx := fun {b o} e => Nat.ne_of_lt (Nat.lt_of_lt_of_le (Heap.lt_size e) dn)
      have hKd : K.lookup dx = none := by
        cases e : K.lookup dx with
        | none => rfl
        | some o => exact absurd rfl (hbig (X _ _ e))
      have hLd : env.locals ≠ dx := by
        obtain ⟨o, es, ep, e1, e2⟩ := hn
        exact hbig e1
      refine stores_old T hk hself hmx fs us' vs' hv' (fun q' hq' => hfn q' (List.mem_cons_of_mem _ hq')) hm' [(q.1, v)] _ ⟨h', g, d, tk', os⟩ Q
        (fun a o e => k a o (fun z => by rw [z, hKx] at e; cases e) (X a o e)) ?_ hLd hKd hx' hn' (L2.relO_put (fs := []) ru fun _ => True.intro) (by simp only [List.length_cons, List.length_nil] at hl ⊢; omega) (fun h2 tk2 mB k2 hn2 r2 => ?_)
      · obtain ⟨o, es, ep, e1, e2⟩ := hn
        exact ⟨o, es, ep, k _ _ hLx e1, e2⟩
      · refine hq h2 tk2 dx mB (fun b o hb e => k2 b o (hbig e) (k b o hb e)) dn dne (k2 _ _ (Ne.symm dne) hx') hn2 fun f => ?_
        have := r2 f
        simpa using this
/-- what the written part says of the class at C and of its __init__, at fI: its name is cn, its fields fs -/
structure ErrTxt (P : Program) (K : Frag) (mg : Str → Option Value) (tm : Bool) (cn : Str) (C fI : Addr) (fs : List Str) : Prop extends ClsK K C fs where
  gC : mg cn = some (.ref C)
  ga : findIn K (.ref C) "__getattribute__" = some (some (.builtin "BaseException.__getattribute__"))
  gg : findIn K (.ref C) "__getattr__" = some none
  iC : findIn K (.ref C) "__init__" = some (some (.ref fI))
  tC : typeIn K (.ref fI) = some (.type "function")
  kC : keepIn K (.ref C) = true
  exC : subIn K (.ref C) (.type "BaseException") = some true
  veC : subIn K (.ref C) (.type "ValueError") = some true
  tyC : typeIn K (.ref C) = some (.type "type")
  hdC : hasDictIn K C = true
  sup : ks_superIn K C C "__init__" = some (some (.builtin "ValueError.__init__"))
  mro : mroIn K C (.ref C) = some true
  sub : subIn K (.ref C) (.ref C) = some true
  ca : findIn K (.ref C) "__class__" = some (some (.builtin "object.__class__"))
  cg : specialIn K (.builtin "object.__class__") "__get__" = some (some (.builtin "getset_descriptor.__get__"))
  ct : takesIn K (.builtin "object.__class__") = some true
  mo : mroIn K C (.type "object") = some true
  opq : nsIn K cStatics "thirdparty.any" = some none
  msup : mg "super" = none
  top : (P.main.scope.names.lookup ("super" : Str)).isSome = false
  fn : ∃ (oc : Value) (od : Option Addr) (qual : Str) (par : Arguments) (sc : Scope) (msg : Expr) (p1 p2 p3 p4 p5 : Pos) (fp : List FP) (dV kV doc pm : Value) (an : Option Addr) (cda cc : Addr) (ct : Value) (osl : Array (Option Value)) (ar : Arg)
      (ccl cl : Value) (cdd cld : Option Addr) (ccs csl : Array (Option Value)) (vs : Array Value) (file : Str) (tf : Tok),
    K.lookup fI = some ⟨oc, od, .func (ksFn "__init__" qual par (stS msg p1 p2 p3 p4 p5 :: fp.map stF) sc dV kV doc pm an (.ref cda) ct cc), osl⟩ ∧ codeIn K (.ref cda) qual = true ∧
    (par.posonlyargs ++ par.args).head? = some ar ∧ ar.arg = "self" ∧ K.lookup cda = some ⟨ccl, cdd, .fields vs, ccs⟩ ∧ vs[2]? = some (.str file tf) ∧ ((P.main.file : Str) == file) = true ∧
    K.lookup cc = some ⟨cl, cld, .cell (some (.ref C)), csl⟩ ∧ fp.map (·.1) = fs ∧ (p3.endLine == p4.line) = true ∧
    (sc.names.lookup ("super" : Str) = some .globalImplicit ∧ sc.names.lookup ("__class__" : Str) = some .free ∧ sc.names.lookup ("self" : Str) = some .local ∧ (∀ f ∈ fs, sc.names.lookup f = some .local) ∧ (∀ f ∈ fs, (f == ("__debug__" : Str)) = false) ∧ (∀ y ∈ sc.names, y.2 ≠ .cell)) ∧
    (sc.kind = .function ∧ sc.isGenerator = false ∧ sc.isCoroutine = false) ∧
    (∀ (s : Shared) (x : Value) (us : List Value), us.length = fs.length → BindsTo s (ksFn "__init__" qual par (stS msg p1 p2 p3 p4 p5 :: fp.map stF) sc dV kV doc pm an (.ref cda) ct cc) ⟨x :: us, []⟩ (("self", x) :: fs.zip us)) ∧
    (∀ (x : Value) (us : List Value), us.length = fs.length → ((("self" : Str), x) :: fs.zip us).reverse.lookup ("self" : Str) = some x ∧ Paired (fun f u => ((("self" : Str), x) :: fs.zip us).reverse.lookup f = some u) fs us) ∧
    ((tm = false ∧ ∃ (z : Str) (i : Nat) (p : Pos), msg = .Constant (.str z) i p) ∨ tm = true ∧ ∃ (z f : Str) (i : Nat) (p p' p'' : Pos), msg = .BinOp (.Constant (.str z) i p) .Add (.Name f p') p'' ∧ z.length ≤ 100 ∧ fs.head? = some f)
/-- what __init__ leaves of a fresh exception at x -/
structure InitEnd (h h' : Heap) (x C dx t1 : Addr) (fs : List Str) (vs : List L2.V) : Prop where
  keep : ∀ b o, b ≠ x → h.get? b = some o → h'.get? b = some o
  obj : h'.get? x = some { cls := .ref C, dict := some dx, data := .fields #[.ref t1, .none, .none, .none, .bool false, .none] }
  dbig : h.objs.size ≤ dx
  dne : dx ≠ x
  ns : ∃ mB, h'.Ns1 dx mB ∧ ∀ f, L2.RelO ((fs.zip vs).reverse.lookup f) (mB f)
/-- the built-in __init__, bound, called -/
theorem call_bw {h : Heap} {g : Array GenState} {d : Drawn} {t : Nat} {os : OsState} {u e t0 : Addr} {rest : List Value} {names : List Str} {Q : Value → Shared → Prop} (T : ClsK K C names) (X : K.In h)
    (he : h.get? e = some (excO C t0)) (hu : h.get? u = some (kxs_mw "ValueError.__init__" e)) (hrest : rest.length ≤ sizeLine)
    (hq : ∀ h' t1, (∀ b o, b ≠ e → h.get? b = some o → h'.get? b = some o) → h'.get? e = some (excO C t1) → Q .none ⟨h', g, d, t, os⟩) :
    wpAny (model prog w) A (call (.ref u) rest) Q E ⟨h, g, d, t, os⟩ := by
  obtain ⟨nm, q, N, bs, bm, sn, sub, ab, col, dd, k0, k1, k2, k3, k5, hC, hbm⟩ := T.cls
  refine wpAny_call (codeAny_of_tree ?_)
  show wpAny _ A.in1 (callAny (.ref u) ⟨rest, []⟩) _ _ _
  simp only [callAny]
  refine wpAny_bind (wpAny_load hu ?_)
  simp only [kxs_mw, show (Value.type "method-wrapper" == Value.type "method" || Value.type "method-wrapper" == Value.type "builtin_function_or_method" || Value.type "method-wrapper" == Value.type "method-wrapper") = true by decide, if_true]
  refine W.KFB.if_so (by decide) ?_
  refine wpAny_bind (PySem.W.check_bound_init F.excBase_ValueError.toExcCallFacts (X _ _ hC) he rfl ?_)
  refine wpAny_bind (wpAny_pure (wpAny_pure ?_))
  refine ⟨plainId_quiet F.excBase_ValueError.init.plain _, codeAny_builtin F.excBase_ValueError.initEntry ?_⟩
  exact exc_init_tree (cls := .ref C) (t0 := t0) (dv := none) (c2 := .none) (c3 := .none) (b4 := .bool false) he hrest fun h' k e' _ => hq h' _ k e'
/-- the text that super().__init__ gets -/
def MsgOk (msg : Expr) (env : Env) (m : Str → Option Value) : Prop := ∀ (prog : Program) (w : World) (A : Around) (E : Value → Shared → Prop) (s : Shared) (Q : Value → Shared → Prop), s.heap.Ns env.locals m → (∀ v tk, Q v { s with toks := tk }) → wpAny (model prog w) A (eval msg env) Q E s
/-- its __init__, called -/
theorem err_init {mg : Str → Option Value} {cn : Str} {fI : Addr} {fs : List Str} {tm : Bool} (T : ErrTxt prog K mg tm cn C fI fs) {x t0 : Addr} {us : List Value} {vs : List L2.V} {mb : Str → Option Value} {R : Result → Shared → Prop} (hv : L2.Vals vs us) (hl : us.length = fs.length) (hl8 : fs.length ≤ 8) (hne : fs ≠ [])
    (hmsg : tm = true → ∀ u, us.head? = some u → ∃ (z : Str) (t : Tok), u = .str z t ∧ z.length ≤ 1000)
    (X : K.In s.heap) (hlim : s.heap.NoLimit) (hg : s.heap.Ns mainGlobals mg) (hb : s.heap.Ns builtinsNs mb) (hbs : mb "super" = bootBuiltins "super") (hx : s.heap.get? x = some (excO C t0)) (hnx : K.lookup x = none) (hroom : A.depth < recursionLimit)
    (hq : ∀ h' tk dx t1, InitEnd s.heap h' x C dx t1 fs vs → R (.ok (.ret .none)) { s with heap := h', toks := tk }) :
    codeAny (model prog w) A (.call (.ref fI) ⟨.ref x :: us, []⟩) R s := by
  obtain ⟨oc, od, qual, par, sc, msg, p1, p2, p3, p4, p5, fp, dV, kV, doc, pm, an, cda, cc, ct, osl, ar, ccl, cl, cdd, cld, ccs, csl, avs, file, tf, ho, hcd, har, hself, hcda, hfile, hfe, hcell, hfp, hpos, ⟨nS, nC, nSelf, nF, nD, nCell⟩, ⟨kF, kG, kCo⟩, hbind, hlook, hm⟩ := T.fn
  obtain ⟨lself, lf⟩ := hlook (.ref x) us hl
  obtain ⟨cd, hcd2, hmro, hhd⟩ := T.toClsK.data
  obtain ⟨oD, hD1, hD2⟩ : ∃ oD, s.heap.get? C = some oD ∧ oD.data = .cls cd := by
    unfold clsIn at hcd2
    split at hcd2
    · rename_i c d cd' sl ho'
      cases hcd2
      exact ⟨_, X _ _ ho', rfl⟩
    · cases hcd2
  have hxC : x ≠ C := fun z => by
    rw [z, hD1] at hx
    cases hx
    cases hD2
  refine ks_codeAny_call_defAt (fd := ksFn "__init__" qual par (stS msg p1 p2 p3 p4 p5 :: fp.map stF) sc dV kV doc pm an (.ref cda) ct cc) (body := stS msg p1 p2 p3 p4 p5 :: fp.map stF) (binds := ("self", .ref x) :: fs.zip us) hroom (X _ _ ho) rfl hlim (codeRec_of X hcd) rfl (hbind s (.ref x) us hl) nCell ?_ (fun h₁ hns hk₁ => ?_) kCo kG kF
  · intro y hy
    rcases List.mem_cons.mp hy with rfl | hy
    · exact nSelf
    · exact nF _ (List.of_mem_zip hy).1
  have X₁ : K.In h₁ := X.keeps hk₁
  have hx₁ := hk₁ _ _ hx
  have hLx : s.heap.objs.size ≠ x := Nat.ne_of_gt (Heap.lt_size hx)
  have hMsg : MsgOk msg (ksEnv qual sc s.heap.objs.size fI (.ref cda) cc) (fun y => (((("self" : Str), Value.ref x) :: fs.zip us).reverse.lookup y)) := by
    intro prog w A E s1 Q hn1 hq1
    rcases hm with ⟨_, z, i, p, rfl⟩ | ⟨htm, z, f, i, p, p', p'', rfl, hz, hf⟩
    · exact wpAny_Constant_str (hq1 _ _)
    · cases lf with
      | nil => cases hf
      | cons h1 _ =>
        cases hf
        obtain ⟨z2, t2, rfl, hz2⟩ := hmsg htm _ rfl
        refine wpAny_BinOp (wpAny_Constant_str (ld (env := ksEnv qual sc s.heap.objs.size fI (.ref cda) cc) hn1 h1 ?_ kF (nF _ (List.mem_cons_self ..)) (nD _ (List.mem_cons_self ..))))
        exact add_str (fun t' tk => hq1 _ _) (by rw [sizeLine_eq]; omega)
  obtain ⟨kind, names, isG, isC, more⟩ := sc
  dsimp only at kF kG kCo nS nC nSelf nF nCell
  subst kF kG kCo
  obtain ⟨pl, he⟩ : ∃ pl, eval (.Call (.Attribute (.Call (.Name "super" p1) [] [] p2) "__init__" p3) [msg] [] p4) (ksEnv qual ⟨.function, names, false, false, more⟩ s.heap.objs.size fI (.ref cda) cc) = (do
      let ov ← attributeBase (.Call (.Name "super" p1) [] [] p2) "__init__" (ksEnv qual ⟨.function, names, false, false, more⟩ s.heap.objs.size fI (.ref cda) cc) (eval (.Call (.Name "super" p1) [] [] p2) (ksEnv qual ⟨.function, names, false, false, more⟩ s.heap.objs.size fI (.ref cda) cc))
      standAt p3.atName
      let (f, first) ← holding [ov] (getMethod ov "__init__" pl)
      callWith p4 f first (backTo p4 (starEach [msg] (ksEnv qual ⟨.function, names, false, false, more⟩ s.heap.objs.size fI (.ref cda) cc))) []) := by
    have hmp : ∀ o env, methodCallPos true o env p3 p4 = pure p4 := fun o env => by
      unfold methodCallPos
      rw [hpos] <;> rfl
    have key : ∀ ms : Expr, methodCallForm ([ms].length + ([] : List Keyword).length) (backTo p4 (starEach [ms] (ksEnv qual ⟨.function, names, false, false, more⟩ s.heap.objs.size fI (.ref cda) cc))) (backToKw p4 (keywordEach [] (ksEnv qual ⟨.function, names, false, false, more⟩ s.heap.objs.size fI (.ref cda) cc))) = true →
        eval (.Call (.Attribute (.Call (.Name "super" p1) [] [] p2) "__init__" p3) [ms] [] p4) (ksEnv qual ⟨.function, names, false, false, more⟩ s.heap.objs.size fI (.ref cda) cc) = (do
      let ov ← attributeBase (.Call (.Name "super" p1) [] [] p2) "__init__" (ksEnv qual ⟨.function, names, false, false, more⟩ s.heap.objs.size fI (.ref cda) cc) (eval (.Call (.Name "super" p1) [] [] p2) (ksEnv qual ⟨.function, names, false, false, more⟩ s.heap.objs.size fI (.ref cda) cc))
      standAt p3.atName
      let (f, first) ← holding [ov] (getMethod ov "__init__" (do return (← importBound (.Call (.Name "super" p1) [] [] p2) (ksEnv qual ⟨.function, names, false, false, more⟩ s.heap.objs.size fI (.ref cda) cc)).getD true))
      callWith p4 f first (backTo p4 (starEach [ms] (ksEnv qual ⟨.function, names, false, false, more⟩ s.heap.objs.size fI (.ref cda) cc))) []) := by
      intro ms hf
      show (do
        let ov ← attributeBase (.Call (.Name "super" p1) [] [] p2) "__init__" (ksEnv qual ⟨.function, names, false, false, more⟩ s.heap.objs.size fI (.ref cda) cc) (eval (.Call (.Name "super" p1) [] [] p2) (ksEnv qual ⟨.function, names, false, false, more⟩ s.heap.objs.size fI (.ref cda) cc))
        standAt p3.atName
        methodCall (.Call (.Name "super" p1) [] [] p2) "__init__" p3 p4 (ksEnv qual ⟨.function, names, false, false, more⟩ s.heap.objs.size fI (.ref cda) cc) ov ([ms].length + ([] : List Keyword).length) (backTo p4 (starEach [ms] (ksEnv qual ⟨.function, names, false, false, more⟩ s.heap.objs.size fI (.ref cda) cc))) (backToKw p4 (keywordEach [] (ksEnv qual ⟨.function, names, false, false, more⟩ s.heap.objs.size fI (.ref cda) cc)))) = _
      unfold methodCall
      simp only [hf, hmp, pure_bind]
      rfl
    rcases hm with ⟨_, z, i, p, rfl⟩ | ⟨htm, z, f, i, p, p', p'', rfl, hz, hf⟩
    · exact ⟨_, key _ rfl⟩
    · exact ⟨_, key _ rfl⟩
  have hst : starEach [msg] (ksEnv qual ⟨.function, names, false, false, more⟩ s.heap.objs.size fI (.ref cda) cc) = [(false, eval msg (ksEnv qual ⟨.function, names, false, false, more⟩ s.heap.objs.size fI (.ref cda) cc))] := by
    rcases hm with ⟨_, z, i, p, rfl⟩ | ⟨htm, z, f, i, p, p', p'', rfl, hz, hf⟩
    · rfl
    · rfl
  -- super().__init__(..)
  refine ks_wpAt_execs_cons (ks_wpAt_Expr_any (ks_wpAt_MethodCall (pl := pl) ?_ he))
  refine ks_wpAt_super_base (env := ksEnv qual ⟨.function, names, false, false, more⟩ s.heap.objs.size fI (.ref cda) cc) nS nC (by decide) rfl (hk₁ _ _ (X _ _ ho)) rfl har rfl (X₁ _ _ hcda) rfl hfile hfe T.top ?_
  refine ks_loadName_global rfl nS (loadGlobal_builtin (env := ksEnv qual ⟨.function, names, false, false, more⟩ s.heap.objs.size fI (.ref cda) cc) (hg.keeps hk₁) T.msup (hb.keeps hk₁) (hbs.trans (by first | boot_by_name | rfl | kernel_rfl)) ⟨rfl, ?_⟩)
  refine wpAny_loadName_free rfl nC rfl ⟨_, X₁ _ _ hcell, rfl⟩ ?_
  rw [hself]
  refine wpAny_loadName_local rfl nSelf hns lself ?_
  refine ks_wpAny_isType_cls (hk₁ _ _ hD1) hD2 ⟨rfl, ?_⟩
  refine ks_wpAny_call_super (hk₁ _ _ hD1) hD2 hx₁ rfl (fun c e => by cases e) (looks_mroIn X₁ T.mro) (fun h₂ eso k₂ => ?_)
  have X₂ : K.In h₂ := X₁.keeps k₂
  have hx₂ := k₂ _ _ hx₁
  have hnsU : ∀ {h : Heap}, (∀ b o, h₁.get? b = some o → h.get? b = some o) → h.Ns s.heap.objs.size (fun y => ((("self" : Str), Value.ref x) :: fs.zip us).reverse.lookup y) := fun {h} k => hns.keeps k
  have hsup := T.sup
  unfold ks_superIn at hsup
  rw [hcd2] at hsup
  refine kxs_getMethod kxs_ValueError (K := K) eso (looks_opaque X₂ T.opq) (l₀ := cd.mro) ?_ rfl X₂ hsup ?_ hxC (by decide) ?_
  · exact fun A Q E s k q => wpAny_bind ((looks_clsIn X₂ hcd2) A _ E s k (wpAny_pure q))
  · exact (InstAt.type (od := none) ⟨hx₂, rfl, rfl, trivial⟩).andThen (looks_subIn X₂ T.veC)
  · have k₃ : ∀ b o, h₂.get? b = some o → (h₂.push (kxs_mw "ValueError.__init__" x)).get? b = some o := fun b o e => Heap.get?_push_of_some _ e
    show wpAny _ _ (callWith p4 (.ref h₂.objs.size) [] (backTo p4 (starEach [msg] (ksEnv qual ⟨.function, names, false, false, more⟩ s.heap.objs.size fI (.ref cda) cc))) []) _ _ _
    rw [hst]
    refine kxs_callWith (i := "ValueError.__init__") (x := x) rfl (evalArgs_plain ?_)
    refine spliced_cons ?_
    refine hMsg prog w _ _ _ _ (hnsU fun b o e => k₃ b o (k₂ b o e)) (fun v tk => spliced_nil ⟨?_, ?_⟩)
    · exact Heap.get?_push_at rfl rfl
    · refine call_bw T.toClsK (X₂.keeps k₃) (k₃ _ _ hx₂) (Heap.get?_push_at rfl rfl) (by rw [sizeLine_eq]; exact (by decide : 1 ≤ 16777216)) (fun h₄ t1 k₄ hx₄ => ?_)
      have hsz : ∀ {b : Addr} {o : Obj}, s.heap.get? b = some o → b ≠ x → h₄.get? b = some o := fun {b o} e hb => k₄ b o hb (k₃ b o (k₂ b o (hk₁ b o e)))
      have hL4 : h₄.Ns s.heap.objs.size (fun y => ((("self" : Str), Value.ref x) :: fs.zip us).reverse.lookup y) := by
        obtain ⟨o, es, ep, e1, e2⟩ := hns
        exact ⟨o, es, ep, k₄ _ _ hLx (k₃ _ _ (k₂ _ _ e1)), e2⟩
      cases fp with
      | nil => exact absurd hfp.symm (by simpa using hne)
      | cons q fp =>
        have hP : Paired (fun (q : FP) u => ((("self" : Str), Value.ref x) :: fs.zip us).reverse.lookup q.1 = some u) (q :: fp) us := by
          rw [← hfp] at lf
          have key : ∀ (m : Str → Option Value) (l : List FP) (us : List Value), Paired (fun f u => m f = some u) (l.map (·.1)) us → Paired (fun (q : FP) u => m q.1 = some u) l us := by
            intro m l
            induction l with
            | nil => intro us h; cases h; exact .nil
            | cons a l ih => intro us h; cases h with | cons h1 h2 => exact .cons h1 (ih _ h2)
          have := key (fun y => ((("self" : Str), Value.ref x) :: fs.zip us).reverse.lookup y) (q :: fp) us (by simpa [hfp] using lf)
          exact this
        show wpAt _ _ _ (execs ((q :: fp).map stF) _) _ _ _
        refine wpAt_of_wpAny (stores_new (m := fun y => (((("self" : Str), Value.ref x) :: fs.zip us).reverse.lookup y)) T.toClsK (env := ksEnv qual ⟨.function, names, false, false, more⟩ s.heap.objs.size fI (.ref cda) cc) rfl nSelf lself q fp us vs hv (fun q' hq' => ?_) hP ⟨h₄, s.gens, s.drawn, tk, s.os⟩ _ ((fun a o e => hsz (X a o e) (fun z => by rw [z, hnx] at e; cases e))) hL4 hLx hnx hx₄ ?_ (fun h' tk' dx mB k5 dn dne hx5 hn5 r5 => ?_))
        · have hin : q'.1 ∈ fs := by rw [← hfp]; exact List.mem_map_of_mem hq'
          exact ⟨hin, nF _ hin, nD _ hin⟩
        · have : (q :: fp).length = fs.length := by rw [← hfp, List.length_map]
          simp only [List.length_cons] at this
          omega
        · refine hq h' tk' dx t1 ⟨fun b o hb e => k5 b o hb (hsz e hb), hx5, ?_, dne, mB, hn5, ?_⟩
          · refine Nat.le_trans ?_ dn
            have z1 : s.heap.objs.size < h₄.objs.size := by
              obtain ⟨o, es, ep, e1, e2⟩ := hL4
              exact Heap.lt_size e1
            exact Nat.le_of_lt z1
          · intro f
            have := r5 f
            rw [hfp] at this
            exact this
/-- a made error -/
structure OwnMade (h h' : Heap) (e C d : Addr) (fs : List Str) (vs : List L2.V) : Prop where
  keep : ∀ b o, h.get? b = some o → h'.get? b = some o
  new : h.objs.size ≤ e
  obj : ∃ oe as, h'.get? e = some oe ∧ oe.cls = .ref C ∧ oe.dict = some d ∧ oe.data = .fields as ∧ as[1]? = some .none
  dbig : h.objs.size ≤ d
  dne : d ≠ e
  ns : ∃ mB, h'.Ns1 d mB ∧ ∀ f, L2.RelO ((fs.zip vs).reverse.lookup f) (mB f)
theorem err_made {mg : Str → Option Value} {cn : Str} {fI : Addr} {fs : List Str} {tm : Bool} (T : ErrTxt prog K mg tm cn C fI fs) {us : List Value} {vs : List L2.V} {mb : Str → Option Value} {R : Result → Shared → Prop} (hv : L2.Vals vs us) (hl : us.length = fs.length) (hl8 : fs.length ≤ 8) (hne : fs ≠ [])
    (hmsg : tm = true → ∀ u, us.head? = some u → ∃ (z : Str) (t : Tok), u = .str z t ∧ z.length ≤ 1000)
    (X : K.In s.heap) (hlim : s.heap.NoLimit) (hg : s.heap.Ns mainGlobals mg) (hb : s.heap.Ns builtinsNs mb) (hbs : mb "super" = bootBuiltins "super") (hroom : A.depth + 1 < recursionLimit)
    (hq : ∀ h' tk e d, OwnMade s.heap h' e C d fs vs → R (.ok (.ret (.ref e))) { s with heap := h', toks := tk }) :
    codeAny (model prog w) A (.call (.ref C) ⟨us, []⟩) R s := by
  obtain ⟨nm, q, N, bs, bm, sn, sub, ab, col, dd, k0, k1, k2, k3, k5, hC, hbm⟩ := T.cls
  obtain ⟨hp, g, dr, tk, os⟩ := s
  have k : ∀ b o, hp.get? b = some o → ((hp.push (kdv_tup us)).push (excO C hp.objs.size)).get? b = some o := fun b o e => Heap.get?_push_of_some _ (Heap.get?_push_of_some _ e)
  have hget : ((hp.push (kdv_tup us)).push (excO C hp.objs.size)).get? (hp.objs.size + 1) = some (excO C hp.objs.size) := by heap_get
  have hnx : K.lookup (hp.objs.size + 1) = none := by
    cases e : K.lookup (hp.objs.size + 1) with
    | none => rfl
    | some o =>
      have z : hp.get? (hp.objs.size + 1) = some o := X _ _ e
      exact absurd (Nat.lt_of_succ_lt (Heap.lt_size z)) (Nat.lt_irrefl _)
  refine call_own F.excBase_ValueError (fun X => refsVE_contains X bm hbm) (X _ _ hC) (looks_findIn X T.iC) (fun self => bind_fn X self T.tC) (by rw [sizeLine_eq]; omega) ?_
  refine err_init (s := ⟨(hp.push (kdv_tup us)).push (excO C hp.objs.size), g, dr, tk, os⟩) T hv hl hl8 hne hmsg (X.keeps k) (hlim.keeps k) (hg.keeps k) (hb.keeps k) hbs hget hnx ?_ fun h' tk' dx t1 ⟨k', hx, dn, dne, hns⟩ => ?_
  · show A.depth + 1 < recursionLimit
    exact hroom
  · have old : ∀ b o, hp.get? b = some o → h'.get? b = some o := fun b o e => k' b o (Nat.ne_of_lt (Nat.lt_succ_of_lt (Heap.lt_size e))) (k b o e)
    have z : hp.objs.size + 1 + 1 ≤ dx := by
      first
        | (simpa only [Heap.size_push] using dn)
        | exact dn
        | (have q := dn; rw [Heap.size_push, Heap.size_push] at q; exact q)
    exact ⟨rfl, hq h' tk' (hp.objs.size + 1) dx ⟨old, Nat.le_succ _, ⟨_, _, hx, rfl, rfl, rfl, rfl⟩, Nat.le_trans (Nat.le_trans (Nat.le_succ _) (Nat.le_succ _)) z, dne, hns⟩⟩
end
end HErr
end PySem
namespace L2
open PySem PySem.Spec PyProof.Rows PySem.HErr
section
variable {X : Cx} {C fI : Addr} {cn : Str} {fs : List Str} {tm : Bool}
/-- C(e, ..), an error of the package -/
def tMkE (tm : Bool) (C : Addr) (fs : List Str) (ta : TA) : St → Hp → XK → Prop := fun σ H Q => ta σ H fun vs H1 => vs.length = fs.length ∧ (tm = true → ∃ (z : Str) (r : List V), vs = .str z :: r ∧ z.length ≤ 1000) ∧
  ∀ d, H1 d = none → Q (.ref C) (some d) (upd H1 d (.xd (fs.zip vs).reverse))
theorem pmk_err {a : Expr} {as : List Expr} {ta : TA} {p pos : Pos} {k : Nat} (T : ErrTxt X.prog X.K X.mg tm cn C fI fs) (hr : Room k X.A) (ha : PA X (a :: as) ta) (hl8 : fs.length ≤ 8) (hne : fs ≠ []) (hg : Gl X cn := by rfl) (hdb : (cn == ("__debug__" : Str)) = false := by decide)
    (he : starEach (a :: as) X.env = (false, eval a X.env) :: starEach as X.env := by rfl) (hpl : (backTo pos (starEach as X.env)).any (·.1) = false := by rfl) :
    PMk X (.Call (.Name cn p) (a :: as) [] pos) (tMkE tm C fs ta) := by
  intro pins s σ H Q I h
  refine wpAny_Call_Name_kw (ld_glob I hg T.gC ?_ hdb)
  refine PySem.W.callWith_K (h₀ := X.base) I.ok.mod.kin T.kC (thn (ha.run pos pins s σ H _ I h) fun us s1 hh => ?_) he hpl
  obtain ⟨vs, H1, I1, r1, hl, hz, q1⟩ := hh
  refine ⟨I1.kIn, ?_⟩
  show wpAny _ _ (call (.ref C) us) _ _ _
  have hlim := I1.nolimit
  obtain ⟨mb, hb1, hb2⟩ := I1.mod.blt
  have hgl := I1.mod.glob.keeps I1.bk
  have hbl := hb1.keeps I1.bk
  obtain ⟨hp, g, dr, tk, os⟩ := s1
  refine wpAny_call (err_made (mb := mb) T r1 (r1.length.symm.trans hl) hl8 hne ?_ I1.kIn hlim hgl hbl (hb2 "super" (by decide)) (by have := hr.dp; omega) fun h' tk' e d M => ?_)
  · intro ht u hu
    obtain ⟨z, r, rfl, hz5⟩ := hz ht
    cases r1 with
    | cons r0 _ =>
      cases hu
      obtain ⟨t, rfl⟩ := r0
      exact ⟨z, t, rfl, hz5⟩
  show MkP X pins σ Q (.ref e) ⟨h', g, dr, tk', os⟩
  obtain ⟨oe, fv, hoe, hc, hd, hdat, h1⟩ := M.obj
  obtain ⟨mB, hns, hrel⟩ := M.ns
  obtain ⟨G', g1, g2⟩ := restrict h' fun b => decide (b ≠ e)
  have gk : ∀ b, b ≠ e → G'.get? b = h'.get? b := fun b hb => g1 b (decide_eq_true hb)
  have ge : G'.get? e = none := g2 e (by simp)
  have old : ∀ b o, hp.get? b = some o → G'.get? b = some o := fun b o q => (gk b (Nat.ne_of_lt (Nat.lt_of_lt_of_le (Heap.lt_size q) M.new))).trans (M.keep b o q)
  have ob : ObjOk X.prog X.w (upd H1 d (.xd (fs.zip vs).reverse)) G' d (.xd (fs.zip vs).reverse) :=
    ⟨mB, hns.at (fun o q => (gk d M.dne).trans q), hrel⟩
  have J : Inv X pins σ (upd H1 d (.xd (fs.zip vs).reverse)) ⟨G', g, dr, tk', os⟩ := I1.laid (t' := tk') old M.dbig ob
  refine ⟨e, oe, fv, ⟨G', g, dr, tk', os⟩, _, .ref C, some d, rfl, J, fun b o q => ?_, ge, hoe, ⟨hc, hd⟩, hdat, h1, ?_, rfl, I1.bare, raises_own T.exC T.tyC, q1 d (I1.hok.fresh M.dbig)⟩
  · by_cases hb : b = e
    · have q' : G'.get? b = some o := q
      rw [hb, ge] at q'; cases q'
    · exact (gk b hb).symm.trans q
  · rw [upd_ne (Ne.symm M.dne)]
    exact I1.hok.fresh M.new
/-- raise C(e, ..) -/
def tRaiseE (tm : Bool) (C : Addr) (fs : List Str) (W : WX) (ta : TA) : TS := fun _ σ H => tMkE tm C fs ta σ H fun cls d H' => W cls d σ H'
theorem ps_raiseE {a : Expr} {as : List Expr} {ta : TA} {W : WX} {p pos pos2 : Pos} {k : Nat} (hc : X.calm = true) (T : ErrTxt X.prog X.K X.mg tm cn C fI fs) (hr : Room k X.A) (tk : Takes X W) (ha : PA X (a :: as) ta) (hl8 : fs.length ≤ 8 := by decide) (hne : fs ≠ [] := by decide) (hg : Gl X cn := by rfl) (hdb : (cn == ("__debug__" : Str)) = false := by decide)
    (he : starEach (a :: as) X.env = (false, eval a X.env) :: starEach as X.env := by rfl) (hpl : (backTo pos (starEach as X.env)).any (·.1) = false := by rfl) :
    PS X (.Raise (some (.Call (.Name cn p) (a :: as) [] pos)) none pos2) (tRaiseE tm C fs W ta) := ps_raise hc tk (pmk_err T hr ha hl8 hne hg hdb he hpl)
/-- an own class in an except clause -/
theorem _root_.PySem.HErr.ErrTxt.xf {P : Program} {K : PySem.W.Frag} {mg : Str → Option Value} (T : ErrTxt P K mg tm cn C fI fs) : XfC K C := ⟨T.ga, T.gg, T.exC, T.hdC⟩
theorem _root_.PySem.HErr.ErrTxt.te {P : Program} {K : PySem.W.Frag} {mg : Str → Option Value} (T : ErrTxt P K mg tm cn C fI fs) : PySem.W.exmOne K (.ref C) (.ref C) = some true := PySem.W.exm_ref T.exC T.hdC T.tyC T.sub
/-- what isinstance asks of the class of an error -/
structure IsC (K : PySem.W.Frag) (D : Addr) : Prop where
  hg : PySem.W.findIn K (.ref D) "__getattribute__" = some (some (.builtin "BaseException.__getattribute__"))
  hk : PySem.W.findIn K (.ref D) "__getattr__" = some none
  hs : PySem.W.subIn K (.ref D) (.type "BaseException") = some true
  hd : PySem.W.hasDictIn K D = true
  ha : PySem.W.findIn K (.ref D) "__class__" = some (some (.builtin "object.__class__"))
  hn : PySem.W.specialIn K (.builtin "object.__class__") "__get__" = some (some (.builtin "getset_descriptor.__get__"))
  ht : PySem.W.takesIn K (.builtin "object.__class__") = some true
  hm : PySem.W.mroIn K D (.type "object") = some true
theorem _root_.PySem.HErr.ErrTxt.isC {P : Program} {K : PySem.W.Frag} {mg : Str → Option Value} (T : ErrTxt P K mg tm cn C fI fs) : IsC K C := ⟨T.ga, T.gg, T.exC, T.hdC, T.ca, T.cg, T.ct, T.mo⟩
/-- isinstance(e, c), e the error (with fields) that the suite holds -/
def rIsD (K : PySem.W.Frag) (cls : Value) (d : Option Addr) (a : Addr) : List V → Hp → VK → Prop := fun xs H Q => ∃ (D dd : Addr) (fs : List (Str × V)) (c : V) (cv : Value) (b : Bool), cls = .ref D ∧ IsC K D ∧ d = some dd ∧ H dd = some (.xd fs) ∧ xs = [.ref a, c] ∧ (∀ u, RelV c u → u = cv) ∧ PySem.W.kitOne K (.ref D) cv = some b ∧ Q (.bl b) H
theorem call_isD {a : Addr} {oe : Obj} {cls : Value} {d : Option Addr} {pn : List (Addr × Obj)} (hz : Zc cls d oe) (hf : ∃ vs, oe.data = .fields vs) : CallR (X.suite a ((a, oe) :: pn)) (.builtin "isinstance") (rIsD X.K cls d a) := by
  intro pins s σ H xs us Q I r h
  obtain ⟨D, dd, fs, c, cv, b, rfl, C, rfl, hdd, rfl, hcv, e, q⟩ := h
  cases r with
  | cons rx rr =>
    cases rr with
    | cons rt rr =>
      cases rr
      cases rx
      have ec := hcv _ rt
      subst ec
      obtain ⟨hget, _⟩ := I.pin (a, oe) (List.mem_append.mpr (.inl List.mem_cons_self))
      obtain ⟨vs, hv⟩ := hf
      have hx : ObjOk X.prog X.w H s.heap dd (.xd fs) := I.hok dd _ hdd
      obtain ⟨mA, hns, hr⟩ := hx
      obtain ⟨od, ho, hl⟩ := lookIn_ns hns
      have J : PySem.W.InstAt s.heap a oe D (some od) := ⟨hget, hz.1, by unfold PySem.W.notCls; rw [hv] <;> rfl, by rw [hz.2]; exact ho⟩
      have hcl : (PySem.W.clsIn X.K D).isSome = true := by
        obtain ⟨cd, hc, _⟩ := PySem.W.any_some C.hd
        rw [hc]
        rfl
      exact PySem.W.kia_one (PySem.W.kitx_exc hcl C.hg C.hk C.hs C.ha C.hn C.ht C.hm) I.kIn J e (fun z => nomatch z) fun tk => ⟨.bl b, H, I.kept (t' := tk) fun _ _ z => z, rfl, q⟩
end
end L2
set_option Elab.async false
set_option linter.all false
set_option maxRecDepth 100000
set_option maxHeartbeats 4000000
namespace L2
open PySem PySem.Spec PyProof.Rows PySem.HErr
abbrev Clause := Value × Option Nat × (Addr → Value → Option Addr → TS)
def endsAt (o : Option Nat) (D : Ends) : Ends := match o with
  | none => D
  | some i => { nx := fun σ H => D.nx (σ.set i none) H, rt := D.rt, bk := fun σ H => D.bk (σ.set i none) H, ct := fun σ H => D.ct (σ.set i none) H }
def slotAtH (o : Option Nat) (a : Addr) (σ : St) : St := match o with
  | none => σ
  | some i => σ.set i (some (.ref a))
/-- what the clauses want of an exception of the body, from the first on -/
def wClauses (K : PySem.W.Frag) (Wout : WX) (D : Ends) : List Clause → WX
  | [] => Wout
  | (c, o, ts) :: r => fun cls d σ H => ∃ b, PySem.W.exmOne K cls c = some b ∧ (b = true → ∀ a, H a = none → ts a cls d (endsAt o D) (slotAtH o a σ) H) ∧ (b = false → wClauses K Wout D r cls d σ H)
inductive Clauses (X : Cx) : List ExceptHandler → List Clause → Prop
  | nil : Clauses X [] []
  | bare {x : Str} {c : Value} {ts : Addr → Value → Option Addr → TS} {b₀ : Stmt} {suite : List Stmt} {np pos' : Pos} {hds : List ExceptHandler} {l : List Clause} (hc : Names X x c)
      (hsu : ∀ (a : Addr) (oe : Obj) (cls : Value) (d : Option Addr) (pn : List (Addr × Obj)), Zc cls d oe → (∃ vs, oe.data = .fields vs) → PSs (X.suite a ((a, oe) :: pn)) (b₀ :: suite) (ts a cls d)) (r : Clauses X hds l) :
      Clauses X (.ExceptHandler (some (.Name x np)) none (b₀ :: suite) pos' :: hds) ((c, none, ts) :: l)
  | named {x n : Str} {i : Nat} {c : Value} {ts : Addr → Value → Option Addr → TS} {b₀ : Stmt} {suite : List Stmt} {np pos' : Pos} {hds : List ExceptHandler} {l : List Clause} (hi : X.N[i]? = some n) (hln : X.env.kindOf n = some .local) (hc : Names X x c)
      (hsu : ∀ (a : Addr) (oe : Obj) (cls : Value) (d : Option Addr) (pn : List (Addr × Obj)), Zc cls d oe → (∃ vs, oe.data = .fields vs) → PSs (X.suite a ((a, oe) :: pn)) (b₀ :: suite) (ts a cls d)) (r : Clauses X hds l) :
      Clauses X (.ExceptHandler (some (.Name x np)) (some n) (b₀ :: suite) pos' :: hds) ((c, some i, ts) :: l)
section
variable {X : Cx} {body : List Stmt} {h₀ : ExceptHandler} {hds : List ExceptHandler} {l : List Clause} {pos : Pos} {tb : WX → TS} {Wout : WX}
theorem ps_try_all (hs : X.stack = X.env :: X.outer) (hf : X.env.frame = some X.env.locals) (hN : X.N.Nodup) (tk : Takes X Wout)
    (hb : ∀ (W : WX) (pn : List (Addr × Obj)) (xe : Value → Shared → Prop), Takes (X.tr pn xe) W → PassesOwn (model X.prog X.w) X.A X.env xe → PSs (X.tr pn xe) body (tb W))
    (hh : Clauses X (h₀ :: hds) l) {K : PySem.W.Frag} (hK : X.K = K := by rfl) : PS X (.Try body (h₀ :: hds) [] [] pos) (fun D σ H => tb (wClauses K Wout D l) D σ H) := by
  subst hK
  refine ⟨fun pins s σ H D I h => ?_⟩
  have ok := I.ok
  have hfr : X.A.frames = some (X.env :: X.outer) := by rw [ok.frames, hs]
  refine wpAny_Try_except ?_
  refine wpAny_mono ((hb (wClauses X.K Wout D l) (X.pn ++ pins) (fun e s₁ => wpAny (model X.prog X.w) X.A (noteFrame e X.env) (fun _ s₂ => wpAny (model X.prog X.w) X.A (setFlight e none) (fun _ s₃ =>
    wpAny (model X.prog X.w) X.A (handleBy e X.env (h₀ :: hds)) (SP X pins D) X.xe s₃) X.xe s₂) X.xe s₁) (fun u s' xx => ?_) PassesOwn.looking).run [] s σ H D (I.toTry _) h) (fun f s1 hsp => ?_) (fun e s1 he => he)
  · obtain ⟨a, Bg, sI, pins', σ', H', cls, d, rfl, J', nb, up, sky, na, os, ag, ww⟩ := xx
    have J : Inv X pins σ' H' sI := J'.ofTry ok
    have sky' : Sky Bg (X.env :: X.outer) a (Zc cls d) X.env.locals s'.heap := by rw [← hs]; exact sky
    show wpAny (model X.prog X.w) X.A (noteFrame (.ref a) X.env) _ _ _
    refine Sky.land Zc.steady hfr hf sky' fun h3 fl3 up3 => ?_
    have J3 : Inv X pins σ' H' { s' with heap := h3 } := J.landed nb fl3.1 (up.trans up3) os ag
    obtain ⟨oe3, vs3, he3, hz3, hd3⟩ := fl3.there
    have nfr : a ∉ frs (X.env :: X.outer) := fun hm => by
      obtain ⟨_, o', e', hnf⟩ := fl3.2.2.1.mem hm
      rw [he3] at e'
      cases e'
      exact hnf _ hd3
    have nL : a ≠ X.env.locals := fun z => nfr (List.mem_filterMap.mpr ⟨X.env, List.mem_cons_self, by rw [hf, z]⟩)
    have nF : a ∉ X.fs := fun hm => by
      obtain ⟨e, he, q⟩ := List.mem_filterMap.mp hm
      exact nfr (List.mem_filterMap.mpr ⟨e, List.mem_cons_of_mem _ he, q⟩)
    have S3 := J3.suite he3 hd3 na nL nF
    have test : ∀ {x : Str} {c : Value} {np : Pos} {Q : Value → Shared → Prop} {E : Value → Shared → Prop}, Names X x c → Q c { s' with heap := h3 } → wpAny (model X.prog X.w) (X.A.mark (some (.ref a))) (eval (.Name x np) X.env) Q E { s' with heap := h3 } := fun {x c np Q E} hc q => by
      obtain ⟨hg, hdbg, hm | ⟨hm, hv, hnn⟩⟩ := hc
      · exact ld_glob (X := X.suite a ((a, oe3) :: (X.pn ++ pins))) S3 hg hm q hdbg
      · exact ld_blt (X := X.suite a ((a, oe3) :: (X.pn ++ pins))) S3 hg hm hv q hnn hdbg
    have LT : PySem.W.Looks (model X.prog X.w) h3 (typeOf (.ref a)) cls := fun A Q E s k q => wpAny_typeOf_ref (k _ _ he3) (by rw [hz3.1]; exact q)
    have go : ∀ {hds' : List ExceptHandler} {l' : List Clause}, Clauses X hds' l' → wClauses X.K Wout D l' cls d σ' H' →
        wpAny (model X.prog X.w) X.A (handleBy (.ref a) X.env hds') (SP X pins D) X.xe { s' with heap := h3 } := by
      intro hds' l' hk
      induction hk with
      | nil =>
        intro ww
        refine wpAny_handleBy_nil ?_
        obtain ⟨k1, k2, k3, oe, vs, T, oT, ts', he, hz, hd, h1, hr⟩ := id fl3
        unfold PySem.passOn
        refine wpAny_bind (wpAny_field he hd h1 ?_)
        rw [if_neg (show ¬ ((Value.ref T == Value.none) = true) from by simp)]
        have fin : wpAny (model X.prog X.w) X.A (setFlight (.ref a) X.env.frame) (fun _ s4 => wpAny (model X.prog X.w) X.A (throw (.ref a) : Sem Flow) (SP X pins D) X.xe s4) X.xe { s' with heap := h3 } := by
          rw [hf]
          refine HandSPX.setFlight_upZ fl3 fun h4 hh4 up4 => wpAny_throw (tk _ _ ?_)
          exact ⟨a, Bg, sI, pins, σ', H', cls, d, rfl, J, nb, (up.trans up3).trans up4, .inr (.inr (by rw [hs]; exact hh4)), na, os, ag, ww⟩
        first
          | exact wpAny_bind (wpAny_pure (wpAny_bind fin))
          | exact wpAny_bind fin
      | @bare x c ts b₀ suite np pos' hds2 l2 hc hsu r ih =>
        intro ww
        obtain ⟨b, hb1, hyes, hno⟩ := ww
        refine wpAny_handleBy_cons (codeAny_handlers_test ?_) (by intro q; cases q)
        have LM := PySem.W.exm_one (M := model X.prog X.w) (J3.kIn) LT hb1
        refine test hc (LM.here ?_)
        cases b with
        | true =>
          refine codeAny_handlers_suite (HandSPX.lands_againZ fl3 fun h4 fl4 up4 => ?_)
          have J4 : Inv X pins σ' H' { s' with heap := h4 } := J.landed nb fl4.1 ((up.trans up3).trans up4) os ag
          obtain ⟨oe4, vs4, he4, hz4, hd4⟩ := fl4.there
          have S4 := J4.suite he4 hd4 na nL nF
          refine wpAny_mono ((hsu a oe4 cls d (X.pn ++ pins) hz4 ⟨_, hd4⟩).run [] _ _ H' _ S4 (hyes rfl a na)) (fun f s6 hsp => ?_) (fun _ _ z => False.elim z)
          cases f with
          | ret u =>
            obtain ⟨v6, σ6, H6, S6, r6, q6⟩ := hsp
            exact ⟨_, _, _, S6.unsuite ok, r6, q6⟩
          | _ =>
            obtain ⟨σ6, H6, S6, q6⟩ := hsp
            exact ⟨_, _, S6.unsuite ok, q6⟩
        | false =>
          show wpAny _ X.A (handleBy (.ref a) X.env hds2) _ _ _
          exact ih (hno rfl)
      | @named x n i c ts b₀ suite np pos' hds2 l2 hi hln hc hsu r ih =>
        intro ww
        obtain ⟨b, hb1, hyes, hno⟩ := ww
        refine wpAny_handleBy_cons (codeAny_handlers_test ?_) (by intro q; cases q)
        have LM := PySem.W.exm_one (M := model X.prog X.w) (J3.kIn) LT hb1
        refine test hc (LM.here ?_)
        cases b with
        | true =>
          refine codeAny_handlers_suite_as (HandSPX.lands_againZ fl3 fun h4 fl4 up4 => ?_)
          have J4 : Inv X pins σ' H' { s' with heap := h4 } := J.landed nb fl4.1 ((up.trans up3).trans up4) os ag
          obtain ⟨oe4, vs4, he4, hz4, hd4⟩ := fl4.there
          have S4 := J4.suite he4 hd4 na nL nF
          refine store_ok (X := X.suite a ((a, oe4) :: (X.pn ++ pins))) (v := .ref a) S4 hN hi (.inl hln) rfl (fun s5 S5 => ?_) (.inr hln)
          refine wpAny_mono ((hsu a oe4 cls d (X.pn ++ pins) hz4 ⟨_, hd4⟩).run [] s5 _ H' _ S5 (hyes rfl a na)) (fun f s6 hsp => ?_) (fun _ _ z => False.elim z)
          have end_ : ∀ {σ6 : St} {H6 : Hp} {Q : Shared → Prop}, Inv (X.suite a ((a, oe4) :: (X.pn ++ pins))) [] σ6 H6 s6 → (∀ s7, Inv X pins (σ6.set i none) H6 s7 → Q s7) →
              wpAny (model X.prog X.w) X.A (do bindName X.env n .none; unbindBehindTheSuite X.env n pos') (fun _ s7 => Q s7) X.xe s6 := fun {σ6 H6 Q} S6 hq => gone_ok (S6.unsuite ok) hN hi hln hq
          cases f with
          | ret u =>
            obtain ⟨v6, σ6, H6, S6, r6, q6⟩ := hsp
            exact end_ S6 fun s7 J7 => ⟨_, _, _, J7, r6, q6⟩
          | next =>
            obtain ⟨σ6, H6, S6, q6⟩ := hsp
            exact end_ S6 fun s7 J7 => ⟨_, _, J7, q6⟩
          | brk =>
            obtain ⟨σ6, H6, S6, q6⟩ := hsp
            exact end_ S6 fun s7 J7 => ⟨_, _, J7, q6⟩
          | cont =>
            obtain ⟨σ6, H6, S6, q6⟩ := hsp
            exact end_ S6 fun s7 J7 => ⟨_, _, J7, q6⟩
        | false =>
          show wpAny _ X.A (handleBy (.ref a) X.env hds2) _ _ _
          exact ih (hno rfl)
    exact go hh ww
  · cases f with
    | next =>
      obtain ⟨σ', H', J', q⟩ := hsp
      exact wpAny_execs_nil ⟨σ', H', J'.ofTry ok, q⟩
    | brk =>
      obtain ⟨σ', H', J', q⟩ := hsp
      exact ⟨σ', H', J'.ofTry ok, q⟩
    | cont =>
      obtain ⟨σ', H', J', q⟩ := hsp
      exact ⟨σ', H', J'.ofTry ok, q⟩
    | ret u =>
      obtain ⟨v, σ', H', J', r, q⟩ := hsp
      exact ⟨v, σ', H', J'.ofTry ok, r, q⟩
end
end L2
set_option Elab.async false
set_option linter.all false
set_option maxRecDepth 100000
set_option maxHeartbeats 4000000
namespace L2
open PySem PySem.Spec PyProof.Rows PySem.HErr
/-- none of these built-ins is shadowed -/
structure Bl (mg : Str → Option Value) : Prop where
  len : mg "len" = none
  range : mg "range" = none
  abs : mg "abs" = none
  sum : mg "sum" = none
  sorted : mg "sorted" = none
  isinstance : mg "isinstance" = none
  zip : mg "zip" = none
  enumerate : mg "enumerate" = none
  reversed : mg "reversed" = none
  int' : mg "int" = none
  str' : mg "str" = none
  list' : mg "list" = none
  tuple' : mg "tuple" = none
  bool' : mg "bool" = none
  all' : mg "all" = none
  any' : mg "any" = none
  ValueError : mg "ValueError" = none
/-- the module's name x is the value v -/
def Glo (mg : Str → Option Value) (x : Str) (v : V) : Prop := ∃ u, mg x = some u ∧ RelV v u
/-- where a def's text stands -/
def LkF (K : PySem.W.Frag) (f : Addr) (fd : FuncData) : Prop := ∃ (oc : Value) (od : Option Addr) (osl : Array (Option Value)), K.lookup f = some ⟨oc, od, .func fd, osl⟩
/-- a def, with whatever defaults -/
structure FunA (K : PySem.W.Frag) (x qual : Str) (st : Stmt) (f : Addr) (fd : FuncData) : Prop where
  ex : ∃ (oc : Value) (od : Option Addr) (dV kV doc pm : Value) (an : Option Addr) (cdv ct : Value) (osl : Array (Option Value)),
    fd = PySem.W.fnOf x qual (defArgs st) (defBody st) (defScope st) dV kV doc pm an cdv ct ∧ K.lookup f = some ⟨oc, od, .func fd, osl⟩ ∧ PySem.W.codeIn K cdv qual = true
  kp : PySem.W.keepIn K (.ref f) = true
section
variable {P : Program} {w : World} {K : PySem.W.Frag} {mg : Str → Option Value} {base : Heap}
theorem FunA.lk {x qual : Str} {st : Stmt} {f : Addr} {fd : FuncData} (F : FunA K x qual st f fd) : LkF K f fd := by
  obtain ⟨oc, od, dV, kV, doc, pm, an, cdv, ct, osl, _, lk, _⟩ := F.ex
  exact ⟨oc, od, osl, lk⟩
theorem PySem_Fun_a {x qual : Str} {st : Stmt} {f : Addr} {fd : FuncData} (F : Fun K x qual st f fd) : FunA K x qual st f fd := by
  obtain ⟨oc, od, kV, doc, pm, an, cdv, ct, osl, e, lk, hcd⟩ := F.ex
  exact ⟨⟨oc, od, .none, kV, doc, pm, an, cdv, ct, osl, e, lk, hcd⟩, F.kp⟩
theorem FunA.ok {x qual : Str} {st : Stmt} {f : Addr} {fd : FuncData} {N ps : List Str} {k : Nat} {sp : Sp} (F : FunA K x qual st f fd) (S : FnScope N ps (defScope st)) (len : ∀ vs H Q E, sp vs H Q E → vs.length = ps.length)
    (hbody : ∀ (cdv : Value) (A : Around) (outer : List Env) (s : Shared) (H : Hp) (vs : List V) (Q : VK) (E : XK), Room k (A.deeper (envOfC qual (defScope st) s.heap.objs.size f cdv)) → sp vs H Q E →
      ∃ t, PSs (cxOf CX0 P w K mg base N qual (defScope st) f cdv A outer s H E).nox (defBody st) t ∧ t { nx := fun _ H' => Q .non H', rt := Q } (start N vs) H) : FnOk P w K mg base CX0 (k + 1) f fd ps sp := by
  obtain ⟨oc, od, dV, kV, doc, pm, an, cdv, ct, osl, rfl, lk, hcd⟩ := F.ex
  refine fn_of lk hcd S len fun A outer s H vs Q E hr hsp => ?_
  obtain ⟨t, h, q⟩ := hbody cdv A outer s H vs Q E hr hsp
  exact ⟨t, h.nox, q⟩
theorem FunA.okX {x qual : Str} {st : Stmt} {f : Addr} {fd : FuncData} {N ps : List Str} {k : Nat} {sp : Sp} (F : FunA K x qual st f fd) (S : FnScope N ps (defScope st)) (len : ∀ vs H Q E, sp vs H Q E → vs.length = ps.length)
    (hbody : ∀ (cdv : Value) (A : Around) (outer : List Env) (s : Shared) (H : Hp) (vs : List V) (Q : VK) (E : XK), Room k (A.deeper (envOfC qual (defScope st) s.heap.objs.size f cdv)) → sp vs H Q E →
      ∃ t, PSs (cxOf (L2.CX P w) P w K mg base N qual (defScope st) f cdv A outer s H E) (defBody st) t ∧ t { nx := fun _ H' => Q .non H', rt := Q } (start N vs) H) : FnOk P w K mg base (L2.CX P w) (k + 1) f fd ps sp := by
  obtain ⟨oc, od, dV, kV, doc, pm, an, cdv, ct, osl, rfl, lk, hcd⟩ := F.ex
  exact fn_of lk hcd S len fun A outer s H vs Q E hr hsp => hbody cdv A outer s H vs Q E hr hsp
end
/-- a def of the text stands where its name says -/
structure Src (K : PySem.W.Frag) (mg : Str → Option Value) (x : Str) (st : Stmt) (ps : List Str) : Prop where
  ex : ∃ f fd, FunA K x x st f fd ∧ mg x = some (.ref f) ∧ Binds K fd ps []
/-- the def x keeps the promise sp -/
structure Def (P : Program) (w : World) (K : PySem.W.Frag) (mg : Str → Option Value) (base : Heap) (CX : CXT) (k : Nat) (x : Str) (ps : List Str) (sp : Sp) : Prop where
  ex : ∃ f fd, LkF K f fd ∧ mg x = some (.ref f) ∧ PySem.W.keepIn K (.ref f) = true ∧ Binds K fd ps [] ∧ FnOk P w K mg base CX k f fd ps sp
section
variable {P : Program} {w : World} {K : PySem.W.Frag} {mg : Str → Option Value} {base : Heap} {CX : CXT} {x : Str} {st : Stmt} {N ps : List Str} {k : Nat} {sp : Sp}
theorem Def.mono {j : Nat} (D : Def P w K mg base CX j x ps sp) (h : j ≤ k) : Def P w K mg base CX k x ps sp := by
  obtain ⟨f, fd, hlk, h1, h2, h3, h4⟩ := D.ex
  exact ⟨f, fd, hlk, h1, h2, h3, h4.mono h⟩
theorem Def.imp {sp' : Sp} (D : Def P w K mg base CX k x ps sp) (h : ∀ vs H Q E, sp' vs H Q E → sp vs H Q E) : Def P w K mg base CX k x ps sp' := by
  obtain ⟨f, fd, hlk, h1, h2, h3, h4⟩ := D.ex
  exact ⟨f, fd, hlk, h1, h2, h3, h4.imp h⟩
theorem Src.ok (F : Src K mg x st ps) (S : FnScope N ps (defScope st)) (len : ∀ vs H Q E, sp vs H Q E → vs.length = ps.length)
    (hbody : ∀ (f : Addr) (cdv : Value) (A : Around) (outer : List Env) (s : Shared) (H : Hp) (vs : List V) (Q : VK) (E : XK), Room k (A.deeper (envOfC x (defScope st) s.heap.objs.size f cdv)) → sp vs H Q E →
      ∃ t, PSs (cxOf CX0 P w K mg base N x (defScope st) f cdv A outer s H E).nox (defBody st) t ∧ t { nx := fun _ H' => Q .non H', rt := Q } (start N vs) H) : Def P w K mg base CX0 (k + 1) x ps sp := by
  obtain ⟨f, fd, h1, h2, h3⟩ := F.ex
  exact ⟨f, fd, h1.lk, h2, h1.kp, h3, h1.ok S len (hbody f)⟩
theorem Src.okX (F : Src K mg x st ps) (S : FnScope N ps (defScope st)) (len : ∀ vs H Q E, sp vs H Q E → vs.length = ps.length)
    (hbody : ∀ (f : Addr) (cdv : Value) (A : Around) (outer : List Env) (s : Shared) (H : Hp) (vs : List V) (Q : VK) (E : XK), Room k (A.deeper (envOfC x (defScope st) s.heap.objs.size f cdv)) → sp vs H Q E →
      ∃ t, PSs (cxOf (L2.CX P w) P w K mg base N x (defScope st) f cdv A outer s H E) (defBody st) t ∧ t { nx := fun _ H' => Q .non H', rt := Q } (start N vs) H) : Def P w K mg base (L2.CX P w) (k + 1) x ps sp := by
  obtain ⟨f, fd, h1, h2, h3⟩ := F.ex
  exact ⟨f, fd, h1.lk, h2, h1.kp, h3, h1.okX S len (hbody f)⟩
end
section
variable {X : Cx} {CX : CXT} {k : Nat} {ps : List Str} {sp : Sp} {x : Str} {p pos : Pos} {e : Expr} {es : List Expr} {t : TA}
theorem pe_def {E : XK} (D : Def X.prog X.w X.K X.mg X.base CX k x ps sp) (hr : Room k X.A) (hx : Passes CX X E) (ha : PA X (e :: es) t) (hg : Gl X x := by rfl)
    (hdb : (x == ("__debug__" : Str)) = false := by decide) (he : starEach (e :: es) X.env = (false, eval e X.env) :: starEach es X.env := by rfl) (hpl : (backTo pos (starEach es X.env)).any (·.1) = false := by rfl) :
    PE X (.Call (.Name x p) (e :: es) [] pos) (tCall sp [] E t) := by
  obtain ⟨f, fd, hlk, h1, h2, h3, h4⟩ := D.ex
  exact pe_call h4 hr hg h1 h2 h3 .nil hx ha hdb he hpl
theorem pe_glo {v : V} (h : Glo X.mg x v) (hg : Gl X x := by rfl) (hd : (x == ("__debug__" : Str)) = false := by decide) : PE X (.Name x p) (tC v) := by
  obtain ⟨u, h1, h2⟩ := h
  exact pe_glob hg h1 h2 hd
end
section
variable {X : Cx} {K : PySem.W.Frag}
def rLenQ (K : PySem.W.Frag) : List V → Hp → VK → Prop := fun xs H Q => ∃ p ys, xs = [.ref p] ∧ (SqL K H p ys ∨ SqT K H p ys) ∧ Q (.int ys.length) H
def rListQ (K : PySem.W.Frag) : List V → Hp → VK → Prop := fun xs H Q => ∃ p ys, xs = [.ref p] ∧ (SqL K H p ys ∨ SqT K H p ys) ∧ ∀ l, H l = none → Q (.ref l) (upd H l (.lst ys))
def rTupQ (K : PySem.W.Frag) : List V → Hp → VK → Prop := fun xs H Q => ∃ p ys, xs = [.ref p] ∧ ((SqL K H p ys ∧ ∀ l, H l = none → Q (.ref l) (upd H l (.tup ys))) ∨ (SqT K H p ys ∧ Q (.ref p) H))
theorem kix_list (h : X.K = K := by rfl) : IxR X (rIxL K) := h ▸ ix_list
theorem kix_tup (h : X.K = K := by rfl) : IxR X (rIxT K) := h ▸ ix_tup
theorem ksl_list (h : X.K = K := by rfl) : SlR X (rSlL K) := h ▸ sl_list
theorem kop_in (h : X.K = K := by rfl) : OpR X (compareOp .In) (rIn K false) := h ▸ op_in_seq
theorem kop_notIn (h : X.K = K := by rfl) : OpR X (compareOp .NotIn) (rIn K true) := h ▸ op_notIn_seq
theorem kop_eqD (hu : X.A.units + 64 < cLine) (h : X.K = K := by rfl) : OpR X (compareOp .Eq) (rEqD K) := h ▸ op_eqD hu
theorem kop_neD (hu : X.A.units + 64 < cLine) (h : X.K = K := by rfl) : OpR X (compareOp .NotEq) (rNeD K) := h ▸ op_neD hu
theorem kcall_len (h : X.K = K := by rfl) : CallR X (.builtin "len") (rLenQ K) := h ▸ call_len_seq
theorem kcall_list (h : X.K = K := by rfl) : CallR X (.type "list") (rListQ K) := h ▸ call_list_of
theorem kcr_sum (hc : X.calm = true) (h : X.K = K := by rfl) : CallR X (.builtin "sum") (rSum K) := h ▸ cr_sum hc
theorem kcr_all (hc : X.calm = true) (h : X.K = K := by rfl) : CallR X (.builtin "all") (rAll K) := h ▸ cr_all hc
theorem kcall_isi (h : X.K = K := by rfl) : CallR X (.builtin "isinstance") (rIsi K) := h ▸ call_isi
theorem kpi_list {tg l : Expr} {tl : TE} (hl : PE X l tl) (h : X.K = K := by rfl) : PI X tg l (iList K tl) := h ▸ pi_list hl
theorem kpe_fld {e : Expr} {f : Str} {pos : Pos} {ta : TE} (he : PE X e ta) (hb : attributeBase e f X.env (eval e X.env) = eval e X.env := by rfl) (h : X.K = K := by rfl) : PE X (.Attribute e f pos) (tFld K ta f) := h ▸ pe_fld he hb
end
theorem same_upd {H : Hp} {p : Addr} {o : HO} (h : H p = none) : Same H (upd H p o) := fun b x e => by
  rw [upd_ne (ne_of_none e h)]
  exact e
/-- all that was tracked is as it was, but for what stands at b -/
def SameB (b : Addr) (H H' : Hp) : Prop := ∀ a o, a ≠ b → H a = some o → H' a = some o
theorem SameB.refl (b : Addr) (H : Hp) : SameB b H H := fun _ _ _ h => h
theorem SameB.trans {b : Addr} {H H1 H2 : Hp} (x : SameB b H H1) (y : SameB b H1 H2) : SameB b H H2 := fun a o n h => y a o n (x a o n h)
theorem Same.b {b : Addr} {H H' : Hp} (h : Same H H') : SameB b H H' := fun a o _ e => h a o e
theorem SameB.upd {b : Addr} {H H' : Hp} {o : HO} (h : SameB b H H') : SameB b H (upd H' b o) := fun a u n e => by
  rw [upd_ne n]
  exact h a u n e
theorem SameB.new {b p : Addr} {H H' : Hp} {o : HO} (h : SameB b H H') (n : H' p = none) : SameB b H (L2.upd H' p o) := fun a u hn e => by
  have := h a u hn e
  rw [upd_ne (ne_of_none this n)]
  exact this
/-- an object that H does not know may change -/
theorem SameB.mut {b p : Addr} {H H' : Hp} {o : HO} (h : SameB b H H') (n : H p = none) : SameB b H (L2.upd H' p o) := fun a u hn e => by
  rw [upd_ne (ne_of_none e n)]
  exact h a u hn e
theorem SameB.free {b l : Addr} {H H' : Hp} (e : SameB b H H') (hb : l ≠ b) (h : H' l = none) : H l = none := by
  cases q : H l with
  | none => rfl
  | some o =>
    rw [e l o hb q] at h
    cases h
theorem SameB.seq {K : PySem.W.Frag} {b : Addr} {H H' : Hp} {a : Addr} {xs : List V} (e : SameB b H H') (n : a ≠ b) (h : SqL K H a xs) : SqL K H' a xs := by
  rcases h with (h | ⟨o, h⟩) | h
  · exact .inl (.inl (e _ _ n h))
  · exact .inl (.inr ⟨o, e _ _ n h⟩)
  · exact .inr h
/-- an error of the class at C with these fields is what E wants, whatever was made meanwhile -/
def Rais (E : XK) (H : Hp) (C : Addr) (fs : List (Str × V)) : Prop := ∀ H' d, Same H H' → H d = none → H' d = some (.xd fs) → E (.ref C) (some d) H'
theorem Rais.go {E : XK} {H H' : Hp} {C d : Addr} {fs : List (Str × V)} (h : Rais E H C fs) (sm : Same H H') (n : H' d = none) : E (.ref C) (some d) (upd H' d (.xd fs)) :=
  h _ d (sm.trans (same_upd n)) (sm.free n) upd_same
/-- the law's box of draws stands at b, its script at l -/
structure Box (H : Hp) (b l : Addr) : Prop where
  ex : ∃ (ns : List Int) (i c r : Int), H b = some (.lst [.int i, .int c, .int r, .ref l]) ∧ H l = some (.lst (ns.map V.int)) ∧ 0 ≤ i ∧ l ≠ b
theorem Box.keep {H H' : Hp} {b l : Addr} (h : Box H b l) (e : Same H H') : Box H' b l := by
  obtain ⟨ns, i, c, r, h1, h2, h3, h4⟩ := h.ex
  exact ⟨ns, i, c, r, e _ _ h1, e _ _ h2, h3, h4⟩
theorem Box.neb {H : Hp} {b l p : Addr} (h : Box H b l) (n : H p = none) : p ≠ b := fun e => by
  obtain ⟨ns, i, c, r, h1, h2, h3, h4⟩ := h.ex
  rw [e, h1] at n
  cases n
theorem Box.nel {H : Hp} {b l p : Addr} (h : Box H b l) (n : H p = none) : p ≠ l := fun e => by
  obtain ⟨ns, i, c, r, h1, h2, h3, h4⟩ := h.ex
  rw [e, h2] at n
  cases n
theorem Box.mut {H : Hp} {b l p : Addr} {o : HO} (h : Box H b l) (nb : p ≠ b) (nl : p ≠ l) : Box (upd H p o) b l := by
  obtain ⟨ns, i, c, r, h1, h2, h3, h4⟩ := h.ex
  exact ⟨ns, i, c, r, by rw [upd_ne (Ne.symm nb)]; exact h1, by rw [upd_ne (Ne.symm nl)]; exact h2, h3, h4⟩
/-- from H to H' only draws were taken and new objects made -/
structure Bx (b l : Addr) (H H' : Hp) : Prop where
  sm : SameB b H H'
  b0 : Box H b l
  b1 : Box H' b l
theorem Bx.trans {b l : Addr} {H H1 H2 : Hp} (x : Bx b l H H1) (y : Bx b l H1 H2) : Bx b l H H2 := ⟨x.sm.trans y.sm, x.b0, y.b1⟩
theorem Bx.same {b l : Addr} {H H1 H2 : Hp} (x : Bx b l H H1) (y : Same H1 H2) : Bx b l H H2 := ⟨x.sm.trans y.b, x.b0, x.b1.keep y⟩
theorem Bx.new {b l p : Addr} {H H' : Hp} {o : HO} (x : Bx b l H H') (n : H' p = none) : Bx b l H (upd H' p o) := x.same (same_upd n)
theorem Bx.mut {b l p : Addr} {H H' : Hp} {o : HO} (x : Bx b l H H') (n : H p = none) : Bx b l H (upd H' p o) := ⟨x.sm.mut n, x.b0, x.b1.mut (x.b0.neb n) (x.b0.nel n)⟩
theorem Bx.free {b l p : Addr} {H H' : Hp} (x : Bx b l H H') (n : H' p = none) : H p = none := x.sm.free (x.b1.neb n) n
theorem Bx.at {b l a : Addr} {H H' : Hp} {o : HO} (x : Bx b l H H') (h : H a = some o) (n : a ≠ b) : H' a = some o := x.sm a o n h
theorem Bx.seq {K : PySem.W.Frag} {b l : Addr} {H H' : Hp} {a : Addr} {xs : List V} (x : Bx b l H H') (n : a ≠ b) (h : SqL K H a xs) : SqL K H' a xs := x.sm.seq n h
/-- a text of ASCII signs -/
def Asc (z : Str) : Prop := ∀ c ∈ z.cps.toList, c < 128
theorem Asc.ok {z : Str} (h : Asc z) : PyData.strOk z = true := by
  unfold PyData.strOk
  rw [← Array.all_toList, List.all_eq_true]
  intro c hc
  have := h c hc
  exact decide_eq_true (by omega)
theorem Asc.app {x y : Str} (hx : Asc x) (hy : Asc y) : Asc (x ++ y) := by
  intro c hc
  rw [Str.cps_append, Array.toList_append] at hc
  rcases List.mem_append.mp hc with h | h
  · exact hx c h
  · exact hy c h
theorem Asc.one {c : Nat} (h : c < 128) : Asc ⟨#[c]⟩ := by
  intro d hd
  have : d = c := by simpa using hd
  omega
mutual
def nb : PyData → Bool
  | .none => true
  | .int _ => true
  | .str x => PyData.strOk x
  | .list xs => nbAll xs
  | .tuple xs => nbAll xs
  | .bool _ => false
  | .dict _ => false
def nbAll : List PyData → Bool
  | [] => true
  | x :: xs => nb x && nbAll xs
end
mutual
theorem lay_nb : ∀ d : PyData, nb d = true → PyData.canLay0 d = true
  | .none, _ => by simp only [PyData.canLay0]
  | .int _, _ => by simp only [PyData.canLay0]
  | .str x, h => by simp only [nb] at h; simp only [PyData.canLay0, h]
  | .list xs, h => by simp only [nb] at h; simp only [PyData.canLay0]; exact lay_nbAll xs h
  | .tuple xs, h => by simp only [nb] at h; simp only [PyData.canLay0]; exact lay_nbAll xs h
  | .bool _, h => by simp only [nb] at h; cases h
  | .dict _, h => by simp only [nb] at h; cases h
theorem lay_nbAll : ∀ ds : List PyData, nbAll ds = true → PyData.canLayAll0 ds = true
  | [], _ => by simp only [PyData.canLayAll0]
  | x :: xs, h => by
    simp only [nbAll, Bool.and_eq_true] at h
    simp only [PyData.canLayAll0, lay_nb x h.1, lay_nbAll xs h.2, Bool.and_self]
end
mutual
theorem eqv_nb : ∀ d e : PyData, nb d = true → nb e = true → (PyData.eqv d e = true ↔ d = e)
  | .none, e, _, he => by cases e <;> simp [PyData.eqv]
  | .int i, e, _, he => by cases e <;> simp [PyData.eqv, nb] at he ⊢
  | .str x, e, _, he => by cases e <;> simp [PyData.eqv]
  | .list xs, e, hd, he => by
    cases e with
    | list ys =>
      simp only [nb] at hd he
      simp only [PyData.eqv, eqv_nbAll xs ys hd he, PyData.list.injEq]
    | _ => simp [PyData.eqv]
  | .tuple xs, e, hd, he => by
    cases e with
    | tuple ys =>
      simp only [nb] at hd he
      simp only [PyData.eqv, eqv_nbAll xs ys hd he, PyData.tuple.injEq]
    | _ => simp [PyData.eqv]
  | .bool _, _, h, _ => by simp only [nb] at h; cases h
  | .dict _, _, h, _ => by simp only [nb] at h; cases h
theorem eqv_nbAll : ∀ ds es : List PyData, nbAll ds = true → nbAll es = true → (PyData.eqvAll ds es = true ↔ ds = es)
  | [], [], _, _ => by simp [PyData.eqvAll]
  | [], _ :: _, _, _ => by simp [PyData.eqvAll]
  | _ :: _, [], _, _ => by simp [PyData.eqvAll]
  | x :: xs, y :: ys, hd, he => by
    simp only [nbAll, Bool.and_eq_true] at hd he
    simp only [PyData.eqvAll, Bool.and_eq_true, eqv_nb x y hd.1 he.1, eqv_nbAll xs ys hd.2 he.2, List.cons.injEq]
end
theorem depthAll_le {n : Nat} : ∀ {ds : List PyData}, (∀ d ∈ ds, d.depth ≤ n) → PyData.depthAll ds ≤ n
  | [], _ => by simp [PyData.depthAll]
  | d :: ds, h => by
    simp only [PyData.depthAll]
    exact Nat.max_le.mpr ⟨h d (List.mem_cons_self ..), depthAll_le fun x hx => h x (List.mem_cons_of_mem _ hx)⟩
theorem shaped_of {d : PyData} (h : nb d = true) (hd : d.depth ≤ 64) : SeqAt.shaped d = true := by
  unfold SeqAt.shaped
  rw [lay_nb d h, decide_eq_true hd]
  rfl
theorem inV_strs (n : Str) (ws : List Str) : inV (.str n) (ws.map V.str) = decide (n ∈ ws) := by
  unfold inV
  rw [Bool.eq_iff_iff, List.any_eq_true, decide_eq_true_iff]
  constructor
  · rintro ⟨y, hy, e⟩
    obtain ⟨z, hz, rfl⟩ := List.mem_map.mp hy
    have e : z = n := by simpa [eqV] using e
    exact e ▸ hz
  · intro h
    exact ⟨.str n, List.mem_map_of_mem h, by simp [eqV]⟩
theorem flat_strsB (ws : List Str) : (ws.map V.str).all flatV = true := by
  rw [List.all_eq_true]
  intro y hy
  obtain ⟨z, hz, rfl⟩ := List.mem_map.mp hy
  rfl
/-- a list or a tuple -/
def Sq (K : PySem.W.Frag) (H : Hp) (a : Addr) (xs : List V) : Prop := SqL K H a xs ∨ SqT K H a xs
theorem Same.seqT {K : PySem.W.Frag} {H H' : Hp} {a : Addr} {xs : List V} (e : Same H H') (h : SqT K H a xs) : SqT K H' a xs := by
  rcases h with (h | ⟨o, h⟩) | h
  · exact .inl (.inl (e _ _ h))
  · exact .inl (.inr ⟨o, e _ _ h⟩)
  · exact .inr h
theorem Same.sq {K : PySem.W.Frag} {H H' : Hp} {a : Addr} {xs : List V} (e : Same H H') (h : Sq K H a xs) : Sq K H' a xs := h.elim (fun h => .inl (e.seq h)) (fun h => .inr (e.seqT h))
section
variable {K : PySem.W.Frag} {H H' : Hp}
mutual
theorem Dp.keep (e : Same H H') : ∀ (d : PyData) (v : V), Dp K H v d → Dp K H' v d
  | .none, _, h => by cases h; exact .non
  | .bool _, _, h => by cases h; exact .bl _
  | .int _, _, h => by cases h; exact .int _
  | .str _, _, h => by cases h; exact .str _
  | .list ds, _, h => by
    cases h with
    | lst hs ha => exact .lst (e.seq hs) (DpAll.keep e ds _ ha)
  | .tuple ds, _, h => by
    cases h with
    | tup hs ha => exact .tup (e.seqT hs) (DpAll.keep e ds _ ha)
  | .dict _, _, h => by cases h
theorem DpAll.keep (e : Same H H') : ∀ (ds : List PyData) (vs : List V), DpAll K H vs ds → DpAll K H' vs ds
  | [], _, h => by cases h; exact .nil
  | d :: ds, _, h => by
    cases h with
    | cons h1 h2 => exact .cons (Dp.keep e d _ h1) (DpAll.keep e ds _ h2)
end
end
def LETTERS : Str := "abcdefghijklmnopqrstuvwxyz"
def DIGITS : Str := "0123456789"
def okc (c : Nat) : Bool := decide (c ∈ LETTERS.cps.toList) || decide (c ∈ DIGITS.cps.toList)
def wd (l : List Nat) : Bool := decide (1 ≤ l.length ∧ l.length ≤ 12) && (decide (l.headD 0 ∈ LETTERS.cps.toList) && l.all okc)
theorem len_cps (z : Str) : z.length = z.cps.toList.length := rfl
theorem all_id {α : Type} (p : α → Bool) (l : List α) : (l.map p).all id = l.all p := by
  rw [List.all_map]
  rfl
theorem wd_inv {l : List Nat} (h : wd l = true) : ∃ c r, l = c :: r ∧ c ∈ LETTERS.cps.toList ∧ (∀ d ∈ l, okc d = true) ∧ l.length ≤ 12 := by
  unfold wd at h
  rw [Bool.and_eq_true, Bool.and_eq_true] at h
  obtain ⟨h1, h2, h3⟩ := h
  have h1 := of_decide_eq_true h1
  have h2 := of_decide_eq_true h2
  cases l with
  | nil => exact absurd h1.1 (by decide)
  | cons c r => exact ⟨c, r, rfl, h2, List.all_eq_true.mp h3, h1.2⟩
theorem okc_lt {c : Nat} (h : okc c = true) : c < 128 := by
  unfold okc at h
  rw [Bool.or_eq_true, decide_eq_true_iff, decide_eq_true_iff] at h
  rcases h with h | h
  · exact of_decide_eq_true (List.all_eq_true.mp (show LETTERS.cps.toList.all (fun c => decide (c < 128)) = true by decide) c h)
  · exact of_decide_eq_true (List.all_eq_true.mp (show DIGITS.cps.toList.all (fun c => decide (c < 128)) = true by decide) c h)
/-- a text that is a word -/
def Wd (z : Str) : Prop := wd z.cps.toList = true
theorem Wd.asc {z : Str} (h : Wd z) : Asc z := fun c hc => by
  obtain ⟨_, _, _, _, ho, _⟩ := wd_inv h
  exact okc_lt (ho c hc)
theorem Wd.len {z : Str} (h : Wd z) : z.length ≤ 12 := by
  obtain ⟨_, _, _, _, _, hl⟩ := wd_inv h
  exact hl
def spare (z : Str) (k : Nat) : Str := cutS z none (some 9) ++ "x" ++ (toString (k : Int) : Str)
theorem cut_take (z : Str) (n : Nat) : (cutS z none (some (n : Int))).cps.toList = z.cps.toList.take n := by
  unfold cutS
  rw [HT.sIx_none, HT.sIx_nat]
  show (List.take (min n z.length - 0) (List.drop 0 z.cps.toList)).toArray.toList = _
  rw [List.drop_zero, Nat.sub_zero]
  show List.take (min n z.length) z.cps.toList = _
  rw [len_cps, Nat.min_comm]
  by_cases h : n ≤ z.cps.toList.length
  · rw [Nat.min_eq_right h]
  · rw [Nat.min_eq_left (by omega), List.take_length, List.take_of_length_le (by omega)]
theorem spare_cps (z : Str) (k : Nat) : (spare z k).cps.toList = z.cps.toList.take 9 ++ ([120] ++ (toString (k : Int) : Str).cps.toList) := by
  unfold spare
  rw [Str.cps_append, Array.toList_append, Str.cps_append, Array.toList_append, show (9 : Int) = ((9 : Nat) : Int) from rfl, cut_take, List.append_assoc]
  rfl
theorem digs_inj : (List.range 30).all (fun k => (List.range 30).all fun j => decide ((toString (k : Int) : Str).cps.toList = (toString (j : Int) : Str).cps.toList → k = j)) = true := by decide +kernel
theorem spare_inj {z : Str} {k j : Nat} (hk : k < 30) (hj : j < 30) (h : spare z k = spare z j) : k = j := by
  have e : (spare z k).cps.toList = (spare z j).cps.toList := by rw [h]
  rw [spare_cps, spare_cps] at e
  have e2 := List.append_cancel_left (List.append_cancel_left e)
  have d := List.all_eq_true.mp (List.all_eq_true.mp digs_inj k (List.mem_range.mpr hk)) j (List.mem_range.mpr hj)
  exact of_decide_eq_true d e2
section
variable {P : Program} {K : PySem.W.Frag} {h : Heap} {mg : Str → Option Value}
theorem src_mk {x : Str} {st : Stmt} {ps : List Str} {f : Addr} {oc : Value} {od an : Option Addr} {osl : Array (Option Value)} {kV doc pm cdv ct : Value} (X : K.In h) (G : h.Ns mainGlobals mg)
    (a : PySem.W.nsIn K mainGlobals x = some (some (.ref f))) (l : K.lookup f = some ⟨oc, od, .func (PySem.W.fnOf x x (defArgs st) (defBody st) (defScope st) .none kV doc pm an cdv ct), osl⟩)
    (c : PySem.W.codeIn K cdv x = true) (k : PySem.W.keepIn K (.ref f) = true)
    (hb : ∀ (kV doc pm : Value) (an : Option Addr) (cdv ct : Value) (us : List Value), us.length = ps.length → bindArgs (PySem.W.fnOf x x (defArgs st) (defBody st) (defScope st) .none kV doc pm an cdv ct) ⟨us, []⟩ = pure (ps.zip us)) : Src K mg x st ps :=
  ⟨f, _, PySem_Fun_a (fun_mk l c k), PySem.W.mg_of X G a, (fun_mk (st := st) l c k).binds hb⟩
theorem glo_str {x z : Str} {t : Tok} (X : K.In h) (G : h.Ns mainGlobals mg) (a : PySem.W.nsIn K mainGlobals x = some (some (.str z t))) : Glo mg x (.str z) := ⟨_, PySem.W.mg_of X G a, t, rfl⟩
theorem glo_int {x : Str} {i : Int} {t : Tok} (X : K.In h) (G : h.Ns mainGlobals mg) (a : PySem.W.nsIn K mainGlobals x = some (some (.int i t))) : Glo mg x (.int i) := ⟨_, PySem.W.mg_of X G a, t, rfl⟩
theorem glo_ref {x : Str} {a : Addr} (X : K.In h) (G : h.Ns mainGlobals mg) (e : PySem.W.nsIn K mainGlobals x = some (some (.ref a))) : Glo mg x (.ref a) := ⟨_, PySem.W.mg_of X G e, rfl⟩
theorem err_mk {cn qual : Str} {tm : Bool} {C fI : Addr} {fs : List Str} {st : Stmt} {nm q : Str} {N : Addr} {bs bm : List Value} {sn : List Str} {sub : List Value} {ab : Bool} {col : Option Bool} {dd : Option Addr} {m0 m1 m2 m3 m5 : Option Value}
    {oc : Value} {od an : Option Addr} {osl : Array (Option Value)} {kV doc pm ct : Value} {cda cc : Addr} {ccl cl : Value} {cdd cld : Option Addr} {ccs csl : Array (Option Value)} {vs : Array Value} {file : Str} {tf : Tok} {msg : Expr} {p1 p2 p3 p4 p5 : Pos} {fp : List FP} {ar : Arg}
    (X : K.In h) (G : h.Ns mainGlobals mg) (aC : PySem.W.nsIn K mainGlobals cn = some (some (.ref C))) (aS : PySem.W.nsIn K mainGlobals "super" = some none)
    (xL : K.lookup C = some (excClassObj nm q C N bs bm true sn sub ab col dd m0 m1 m2 m3 m5 "ValueError.__new__")) (hbm : PySem.HandSPX.refsVE bm = true)
    (sa : PySem.W.findIn K (.ref C) "__setattr__" = some (some (.builtin "object.__setattr__"))) (ga : PySem.W.findIn K (.ref C) "__getattribute__" = some (some (.builtin "BaseException.__getattribute__"))) (gg : PySem.W.findIn K (.ref C) "__getattr__" = some none)
    (noN : ∀ f ∈ fs, PySem.W.findIn K (.ref C) f = some none)
    (iC : PySem.W.findIn K (.ref C) "__init__" = some (some (.ref fI))) (tI : PySem.W.typeIn K (.ref fI) = some (.type "function")) (kC : PySem.W.keepIn K (.ref C) = true)
    (exC : PySem.W.subIn K (.ref C) (.type "BaseException") = some true) (veC : PySem.W.subIn K (.ref C) (.type "ValueError") = some true) (tyC : PySem.W.typeIn K (.ref C) = some (.type "type")) (hdC : PySem.W.hasDictIn K C = true)
    (sup : PySem.W.ks_superIn K C C "__init__" = some (some (.builtin "ValueError.__init__"))) (mro : PySem.W.mroIn K C (.ref C) = some true) (su : PySem.W.subIn K (.ref C) (.ref C) = some true)
    (ca : PySem.W.findIn K (.ref C) "__class__" = some (some (.builtin "object.__class__"))) (cg : PySem.W.specialIn K (.builtin "object.__class__") "__get__" = some (some (.builtin "getset_descriptor.__get__"))) (ct' : PySem.W.takesIn K (.builtin "object.__class__") = some true)
    (mo : PySem.W.mroIn K C (.type "object") = some true) (opq : PySem.W.nsIn K cStatics "thirdparty.any" = some none)
    (top : (P.main.scope.names.lookup ("super" : Str)).isSome = false)
    (l : K.lookup fI = some ⟨oc, od, .func (PySem.W.ksFn "__init__" qual (defArgs st) (defBody st) (defScope st) .none kV doc pm an (.ref cda) ct cc), osl⟩) (c : PySem.W.codeIn K (.ref cda) qual = true)
    (lc : K.lookup cda = some ⟨ccl, cdd, .fields vs, ccs⟩) (hv2 : vs[2]? = some (.str file tf)) (hfile : ((P.main.file : Str) == file) = true) (lcc : K.lookup cc = some ⟨cl, cld, .cell (some (.ref C)), csl⟩)
    (hbody : defBody st = stS msg p1 p2 p3 p4 p5 :: fp.map stF) (har : ((defArgs st).posonlyargs ++ (defArgs st).args).head? = some ar) (hself : ar.arg = "self") (hfp : fp.map (·.1) = fs) (hpos : (p3.endLine == p4.line) = true)
    (h1 : (defScope st).names.lookup ("super" : Str) = some .globalImplicit) (h2 : (defScope st).names.lookup ("__class__" : Str) = some .free) (h3 : (defScope st).names.lookup ("self" : Str) = some .local) (h4 : ∀ f ∈ fs, (defScope st).names.lookup f = some .local) (h5 : ∀ f ∈ fs, (f == ("__debug__" : Str)) = false) (h6 : ∀ y ∈ (defScope st).names, y.2 ≠ .cell)
    (h7 : (defScope st).kind = .function) (h8 : (defScope st).isGenerator = false) (h9 : (defScope st).isCoroutine = false)
    (hbind : ∀ (kV doc pm : Value) (an : Option Addr) (cda : Addr) (ct : Value) (cc : Addr) (s : Shared) (x : Value) (us : List Value), us.length = fs.length → BindsTo s (PySem.W.ksFn "__init__" qual (defArgs st) (defBody st) (defScope st) .none kV doc pm an (.ref cda) ct cc) ⟨x :: us, []⟩ (("self", x) :: fs.zip us))
    (hlook : ∀ (x : Value) (us : List Value), us.length = fs.length → ((("self" : Str), x) :: fs.zip us).reverse.lookup ("self" : Str) = some x ∧ Paired (fun f u => ((("self" : Str), x) :: fs.zip us).reverse.lookup f = some u) fs us)
    (hmsg : (tm = false ∧ ∃ (z : Str) (i : Nat) (p : Pos), msg = .Constant (.str z) i p) ∨ tm = true ∧ ∃ (z f : Str) (i : Nat) (p p' p'' : Pos), msg = .BinOp (.Constant (.str z) i p) .Add (.Name f p') p'' ∧ z.length ≤ 100 ∧ fs.head? = some f) :
    ErrTxt P K mg tm cn C fI fs where
  cls := ⟨nm, q, N, bs, bm, sn, sub, ab, col, dd, m0, m1, m2, m3, m5, xL, hbm⟩
  sa := sa
  noN := noN
  gC := PySem.W.mg_of X G aC
  ga := ga
  gg := gg
  iC := iC
  tC := tI
  kC := kC
  exC := exC
  veC := veC
  tyC := tyC
  hdC := hdC
  sup := sup
  mro := mro
  sub := su
  ca := ca
  cg := cg
  ct := ct'
  mo := mo
  opq := opq
  msup := PySem.W.mg_none_of X G aS
  top := top
  fn := by
    rw [hbody] at l
    refine ⟨oc, od, qual, defArgs st, defScope st, msg, p1, p2, p3, p4, p5, fp, .none, kV, doc, pm, an, cda, cc, ct, osl, ar, ccl, cl, cdd, cld, ccs, csl, vs, file, tf, l, c, har, hself, lc, hv2, hfile, lcc, hfp, hpos, ⟨h1, h2, h3, h4, h5, h6⟩, ⟨h7, h8, h9⟩, ?_, hlook, hmsg⟩
    intro s x us hl
    have := hbind kV doc pm an cda ct cc s x us hl
    rw [hbody] at this
    exact this
end
end L2
set_option Elab.async false
set_option linter.all false
set_option maxRecDepth 100000
set_option maxHeartbeats 4000000
namespace L2
open PySem PySem.Spec PyProof.Rows PySem.HErr
/-- a method of the text stands in its class -/
structure SrcM (K : PySem.W.Frag) (C : Addr) (m qual : Str) (st : Stmt) (ps : List Str) : Prop where
  ex : ∃ f fd, FunA K m qual st f fd ∧ Meth K C m f ∧ Binds K fd ps []
/-- the method m of the class at C keeps the promise sp -/
structure DefM (P : Program) (w : World) (K : PySem.W.Frag) (mg : Str → Option Value) (base : Heap) (CX : CXT) (k : Nat) (C : Addr) (m : Str) (ps : List Str) (sp : Sp) : Prop where
  ex : ∃ f fd, LkF K f fd ∧ Meth K C m f ∧ Binds K fd ps [] ∧ FnOk P w K mg base CX k f fd ps sp
/-- __init__ of the class at C stands in it; ds: the values of defaults that are left out -/
structure SrcI (K : PySem.W.Frag) (C : Addr) (qual : Str) (st : Stmt) (ps : List Str) : Prop where
  ex : ∃ f fd, FunA K "__init__" qual st f fd ∧ Mk K C f ∧ Binds K fd ps []
structure DefI (P : Program) (w : World) (K : PySem.W.Frag) (mg : Str → Option Value) (base : Heap) (CX : CXT) (k : Nat) (C : Addr) (ps : List Str) (sp : Sp) : Prop where
  ex : ∃ f fd, LkF K f fd ∧ Mk K C f ∧ Binds K fd ps [] ∧ FnOk P w K mg base CX k f fd ps sp
section
variable {P : Program} {w : World} {K : PySem.W.Frag} {mg : Str → Option Value} {base : Heap} {CX : CXT} {m qual : Str} {C : Addr} {st : Stmt} {N ps : List Str} {k : Nat} {sp : Sp}
theorem DefM.mono {j : Nat} (D : DefM P w K mg base CX j C m ps sp) (h : j ≤ k) : DefM P w K mg base CX k C m ps sp := by
  obtain ⟨f, fd, hlk, h1, h2, h3⟩ := D.ex
  exact ⟨f, fd, hlk, h1, h2, h3.mono h⟩
theorem DefI.mono {j : Nat} (D : DefI P w K mg base CX j C ps sp) (h : j ≤ k) : DefI P w K mg base CX k C ps sp := by
  obtain ⟨f, fd, hlk, h1, h2, h3⟩ := D.ex
  exact ⟨f, fd, hlk, h1, h2, h3.mono h⟩
theorem SrcM.ok (F : SrcM K C m qual st ps) (S : FnScope N ps (defScope st)) (len : ∀ vs H Q E, sp vs H Q E → vs.length = ps.length)
    (hbody : ∀ (f : Addr) (cdv : Value) (A : Around) (outer : List Env) (s : Shared) (H : Hp) (vs : List V) (Q : VK) (E : XK), Room k (A.deeper (envOfC qual (defScope st) s.heap.objs.size f cdv)) → sp vs H Q E →
      ∃ t, PSs (cxOf CX0 P w K mg base N qual (defScope st) f cdv A outer s H E).nox (defBody st) t ∧ t { nx := fun _ H' => Q .non H', rt := Q } (start N vs) H) : DefM P w K mg base CX0 (k + 1) C m ps sp := by
  obtain ⟨f, fd, h1, h2, h3⟩ := F.ex
  exact ⟨f, fd, h1.lk, h2, h3, h1.ok S len (hbody f)⟩
theorem SrcM.okX (F : SrcM K C m qual st ps) (S : FnScope N ps (defScope st)) (len : ∀ vs H Q E, sp vs H Q E → vs.length = ps.length)
    (hbody : ∀ (f : Addr) (cdv : Value) (A : Around) (outer : List Env) (s : Shared) (H : Hp) (vs : List V) (Q : VK) (E : XK), Room k (A.deeper (envOfC qual (defScope st) s.heap.objs.size f cdv)) → sp vs H Q E →
      ∃ t, PSs (cxOf (L2.CX P w) P w K mg base N qual (defScope st) f cdv A outer s H E) (defBody st) t ∧ t { nx := fun _ H' => Q .non H', rt := Q } (start N vs) H) : DefM P w K mg base (L2.CX P w) (k + 1) C m ps sp := by
  obtain ⟨f, fd, h1, h2, h3⟩ := F.ex
  exact ⟨f, fd, h1.lk, h2, h3, h1.okX S len (hbody f)⟩
theorem SrcI.okX (F : SrcI K C qual st ps) (S : FnScope N ps (defScope st)) (len : ∀ vs H Q E, sp vs H Q E → vs.length = ps.length)
    (hbody : ∀ (f : Addr) (cdv : Value) (A : Around) (outer : List Env) (s : Shared) (H : Hp) (vs : List V) (Q : VK) (E : XK), Room k (A.deeper (envOfC qual (defScope st) s.heap.objs.size f cdv)) → sp vs H Q E →
      ∃ t, PSs (cxOf (L2.CX P w) P w K mg base N qual (defScope st) f cdv A outer s H E) (defBody st) t ∧ t { nx := fun _ H' => Q .non H', rt := Q } (start N vs) H) : DefI P w K mg base (L2.CX P w) (k + 1) C ps sp := by
  obtain ⟨f, fd, h1, h2, h3⟩ := F.ex
  exact ⟨f, fd, h1.lk, h2, h3, h1.okX S len (hbody f)⟩
theorem SrcI.ok (F : SrcI K C qual st ps) (S : FnScope N ps (defScope st)) (len : ∀ vs H Q E, sp vs H Q E → vs.length = ps.length)
    (hbody : ∀ (f : Addr) (cdv : Value) (A : Around) (outer : List Env) (s : Shared) (H : Hp) (vs : List V) (Q : VK) (E : XK), Room k (A.deeper (envOfC qual (defScope st) s.heap.objs.size f cdv)) → sp vs H Q E →
      ∃ t, PSs (cxOf CX0 P w K mg base N qual (defScope st) f cdv A outer s H E).nox (defBody st) t ∧ t { nx := fun _ H' => Q .non H', rt := Q } (start N vs) H) : DefI P w K mg base CX0 (k + 1) C ps sp := by
  obtain ⟨f, fd, h1, h2, h3⟩ := F.ex
  exact ⟨f, fd, h1.lk, h2, h3, h1.ok S len (hbody f)⟩
end
theorem passAt0 {X : Cx} (σ : St) : PassesAt CX0 X σ E0 := fun _ _ _ _ _ _ h => h.elim
theorem Passes.at {CX : CXT} {X : Cx} {E : XK} (h : Passes CX X E) (σ : St) : PassesAt CX X σ E := fun pins H s e s' I c => h pins σ H s e s' I c
/-- o.m(..) -/
def tMetD (C : Addr) (m : Str) (sp : Sp) (E : St → XK) (ta : TE) (t : TA) : TE := fun σ H Q => ta σ H fun x H1 => ∃ a dx fs, x = .ref a ∧ H1 a = some (.ins C dx fs) ∧ fs.lookup m = none ∧ t σ H1 fun vs H2 => sp (x :: vs) H2 Q (E σ)
/-- C(..) -/
def tMkD (C : Addr) (sp : Sp) (E : St → XK) (t : TA) : TE := fun σ H Q => t σ H fun vs H1 => ∀ x dx, H1 x = none → H1 dx = none → dx ≠ x →
  sp (.ref x :: vs) (upd (upd H1 dx (.own x)) x (.ins C dx [])) (fun v H2 => v = .non ∧ Q (.ref x) H2) (E σ)
section
variable {X : Cx} {CX : CXT} {k : Nat} {C : Addr} {ps : List Str} {sp : Sp} {E : St → XK} {x m : Str} {p pos apos : Pos} {e o : Expr} {es : List Expr} {ta : TE} {t : TA}
theorem pe_metD {pl : Sem Bool} (D : DefM X.prog X.w X.K X.mg X.base CX k C m ps sp) (c : Cls X.K C) (hr : Room k X.A) (hx : ∀ σ, PassesAt CX X σ (E σ)) (he : PE X o ta) (ha : PA X (e :: es) t)
    (hst : starEach (e :: es) X.env = (false, eval e X.env) :: starEach es X.env := by rfl) (hpl : (backTo pos (starEach es X.env)).any (·.1) = false := by rfl)
    (ht : eval (.Call (.Attribute o m apos) (e :: es) [] pos) X.env = (do
      let ov ← eval o X.env
      standAt apos.atName
      let (f, first) ← holding [ov] (getMethod ov m pl)
      callWith pos f first (backTo pos (starEach (e :: es) X.env)) (backToKw pos (keywordEach [] X.env))) := by rfl) :
    PE X (.Call (.Attribute o m apos) (e :: es) [] pos) (tMetD C m sp E ta t) := by
  obtain ⟨f, fd, hlk, hm, hb, F⟩ := D.ex
  refine ⟨fun pins s σ H Q I h => ?_⟩
  refine PySem.W.methodCall_KW (pl := pl) (thn (he.run pins s σ H _ I h) fun u s1 ⟨x, H1, I1, rx, a, dx, fs, ex, ea, l, q⟩ => ?_) ht
  subst ex
  obtain rfl : u = Value.ref a := rx
  refine getmeth_ok I1 ea c hm l ?_
  refine PySem.W.callWith_K (first := [.ref a]) (h₀ := X.base) I.ok.mod.kin hm.kp (thn (ha.run pos pins s1 σ H1 _ I1 q) fun us s2 ⟨vs, H2, I2, r, q2⟩ => ⟨I2.kIn, ?_⟩) hst hpl
  exact run_fnS (us := .ref a :: us) (vs := .ref a :: vs) F hr hb (hx σ) I2 (.cons rfl r) q2
theorem pe_metD0 {pl : Sem Bool} (D : DefM X.prog X.w X.K X.mg X.base CX k C m ps sp) (c : Cls X.K C) (hr : Room k X.A) (hx : ∀ σ, PassesAt CX X σ (E σ)) (he : PE X o ta)
    (ht : eval (.Call (.Attribute o m apos) [] [] pos) X.env = (do
      let ov ← eval o X.env
      standAt apos.atName
      let (f, first) ← holding [ov] (getMethod ov m pl)
      callWith pos f first (backTo pos (starEach [] X.env)) (backToKw pos (keywordEach [] X.env))) := by rfl) :
    PE X (.Call (.Attribute o m apos) [] [] pos) (tMetD C m sp E ta tNil) := by
  obtain ⟨f, fd, hlk, hm, hb, F⟩ := D.ex
  refine ⟨fun pins s σ H Q I h => ?_⟩
  refine PySem.W.methodCall_KW (pl := pl) (thn (he.run pins s σ H _ I h) fun u s1 ⟨x, H1, I1, rx, a, dx, fs, ex, ea, l, q⟩ => ?_) ht
  subst ex
  obtain rfl : u = Value.ref a := rx
  refine getmeth_ok I1 ea c hm l ?_
  exact PySem.W.callWith_K0 (first := [.ref a]) I1.kIn hm.kp (run_fnS (us := [.ref a]) (vs := [.ref a]) F hr hb (hx σ) I1 (.cons rfl .nil) q)
theorem pe_mkD (D : DefI X.prog X.w X.K X.mg X.base CX k C ps sp) (hm : X.mg x = some (.ref C)) (hr : Room (k + 1) X.A) (hx : ∀ σ, PassesAt CX X σ (E σ)) (ha : PA X (e :: es) t) (hg : Gl X x := by rfl)
    (hdb : (x == ("__debug__" : Str)) = false := by decide) (he : starEach (e :: es) X.env = (false, eval e X.env) :: starEach es X.env := by rfl) (hpl : (backTo pos (starEach es X.env)).any (·.1) = false := by rfl) :
    PE X (.Call (.Name x p) (e :: es) [] pos) (tMkD C sp E t) := by
  obtain ⟨f, fd, hlk, M, hb, F⟩ := D.ex
  refine ⟨fun pins s0 σ H0 Q I0 h0 => ?_⟩
  refine wpAny_Call_Name_kw (ld_glob I0 hg hm ?_ hdb)
  refine PySem.W.callWith_K (h₀ := X.base) I0.ok.mod.kin M.kp (thn (ha.run pos pins s0 σ H0 _ I0 h0) fun us s ⟨vs, H, I, r, h⟩ => ⟨I.kIn, ?_⟩) he hpl
  show wpAny _ _ (call (.ref C) us) _ _ _
  have hq := h (s.heap.objs.size + 1) s.heap.objs.size (I.hok.fresh (Nat.le_succ _)) (I.hok.fresh (Nat.le_refl _)) (Nat.ne_of_lt (Nat.lt_succ_self _))
  have I2 := Inv.made (C := C) I
  have r2 : Vals (V.ref (s.heap.objs.size + 1) :: vs) (Value.ref (s.heap.objs.size + 1) :: us) := .cons rfl r
  have hl : ((Value.ref (s.heap.objs.size + 1) :: us) ++ []).length = ps.length := by
    have e := r2.length
    rw [F.len _ _ _ _ hq] at e
    rw [List.append_nil]
    exact e.symm
  have hbb := hb _ (Value.ref (s.heap.objs.size + 1) :: us) I2.kIn hl
  rw [List.append_nil] at hbb
  refine wpAny_call (make_map (f := f) I.kIn M.makes M.init (beq_iff_eq.mp M.fn) (codeAny_mono (F.run _ X.stack _ _ ⟨Value.ref (s.heap.objs.size + 1) :: us, []⟩ (Value.ref (s.heap.objs.size + 1) :: us) _ _ (E σ) (hr.make C us [])
    (I2.env0.make C us []) hbb r2 hq) fun r s' hq' => ?_))
  cases r with
  | error e => exact hx σ pins _ _ e s' I2 hq'
  | ok fl =>
    cases fl with
    | ret u =>
      obtain ⟨v, H', I3, rv, ev, q3⟩ := I2.after hq'
      subst ev
      exact ⟨rv, ⟨V.ref (s.heap.objs.size + 1), H', I3, rfl, q3⟩⟩
    | next => exact False.elim hq'
    | brk => exact False.elim hq'
    | cont => exact False.elim hq'
theorem kps_fld {K : PySem.W.Frag} {f : Str} {value : Expr} {pos' : Pos} {tv : TE} (ha : PE X o ta) (hv : PE X value tv) (hs : swapsWith value (some (.Attribute o f pos')) pos.line X.env = pure false := by rfl) (hK : X.K = K := by rfl) :
    PS X (.Assign [.Attribute o f pos'] value pos) (sFld K ta tv f) := hK ▸ ps_fld ha hv hs
theorem srcM_mk {K : PySem.W.Frag} {qual : Str} {st : Stmt} {f : Addr} {oc : Value} {od an : Option Addr} {osl : Array (Option Value)} {kV doc pm cdv ct : Value}
    (a : PySem.W.findIn K (.ref C) m = some (some (.ref f))) (i : PySem.W.isFn K (.ref f) = true) (l : K.lookup f = some ⟨oc, od, .func (PySem.W.fnOf m qual (defArgs st) (defBody st) (defScope st) .none kV doc pm an cdv ct), osl⟩)
    (c : PySem.W.codeIn K cdv qual = true) (k : PySem.W.keepIn K (.ref f) = true)
    (hb : ∀ (kV doc pm : Value) (an : Option Addr) (cdv ct : Value) (us : List Value), us.length = ps.length → bindArgs (PySem.W.fnOf m qual (defArgs st) (defBody st) (defScope st) .none kV doc pm an cdv ct) ⟨us, []⟩ = pure (ps.zip us)) : SrcM K C m qual st ps :=
  ⟨f, _, PySem_Fun_a (fun_mk l c k), ⟨a, i, k⟩, (fun_mk (st := st) l c k).binds hb⟩
theorem srcI_mk {K : PySem.W.Frag} {qual : Str} {st : Stmt} {f : Addr} {oc : Value} {od an : Option Addr} {osl : Array (Option Value)} {kV doc pm cdv ct : Value}
    (mk : PySem.W.makesIn K C = true) (kc : PySem.W.keepIn K (.ref C) = true)
    (a : PySem.W.findIn K (.ref C) "__init__" = some (some (.ref f))) (i : PySem.W.isFn K (.ref f) = true) (l : K.lookup f = some ⟨oc, od, .func (PySem.W.fnOf "__init__" qual (defArgs st) (defBody st) (defScope st) .none kV doc pm an cdv ct), osl⟩)
    (c : PySem.W.codeIn K cdv qual = true) (k : PySem.W.keepIn K (.ref f) = true)
    (hb : ∀ (kV doc pm : Value) (an : Option Addr) (cdv ct : Value) (us : List Value), us.length = ps.length → bindArgs (PySem.W.fnOf "__init__" qual (defArgs st) (defBody st) (defScope st) .none kV doc pm an cdv ct) ⟨us, []⟩ = pure (ps.zip us)) : SrcI K C qual st ps :=
  ⟨f, _, PySem_Fun_a (fun_mk l c k), ⟨mk, a, i, kc⟩, (fun_mk (st := st) l c k).binds hb⟩
end
end L2
set_option Elab.async false
set_option linter.all false
set_option maxRecDepth 100000
set_option maxHeartbeats 4000000
namespace L2
open PySem PySem.Spec PyProof.Rows PySem.HErr
/-- an error of a plan -/
inductive PErr where
  | tooMany (kind : Str) (limit : Int)
  | badWord (w : Str)
  | double (n : Str)
  | badNumber (n : Int)
  | empty (n : Str)
  | unknown (n : Str)
abbrev SRow := Str × List Str × List Str
/-- names in the order of the places -/
def inOrd (places ns : List Str) : List Str := places.filter fun p => decide (p ∈ ns)
/-- a plan -/
structure PlanD where
  places : List Str
  begin : List Int
  steps : List SRow
def PlanD.names (d : PlanD) : List Str := d.steps.map (·.1)
/-- a dict from words to tuples of words -/
def TabAt (H : Hp) (kvs : List (Key × V)) (rows : List (Str × List Str)) : Prop := Paired (fun (kv : Key × V) r => kv.1 = Sum.inr r.1 ∧ ∃ t, kv.2 = .ref t ∧ H t = some (.tup (r.2.map V.str))) kvs rows
/-- a tuple whose place is known to be bare -/
def TupK (F : Hp) (a : Addr) (vs : List V) : Prop := ∃ o, F a = some (.frz o (.tup vs)) ∧ o.cls = .type "tuple" ∧ o.dict = none
theorem TupK.mono {F F' : Hp} {a : Addr} {vs : List V} (e : Same F F') (h : TupK F a vs) : TupK F' a vs := let ⟨o, h, q⟩ := h; ⟨o, e _ _ h, q⟩
def TupX (n : Bool) (F : Hp) (a : Addr) (vs : List V) : Prop := (n = true ∧ F a = some (.tup vs)) ∨ (n = false ∧ TupK F a vs)
theorem TupX.mono {n : Bool} {F F' : Hp} {a : Addr} {vs : List V} (e : Same F F') (h : TupX n F a vs) : TupX n F' a vs := h.imp (fun ⟨h0, h⟩ => ⟨h0, e _ _ h⟩) fun ⟨h0, h⟩ => ⟨h0, h.mono e⟩
def TupB (n : Bool) (F : Hp) (a : Addr) (vs : List V) : Prop := F a = some (.tup vs) ∨ (n = false ∧ TupK F a vs)
theorem TupB.mono {n : Bool} {F F' : Hp} {a : Addr} {vs : List V} (e : Same F F') (h : TupB n F a vs) : TupB n F' a vs := h.imp (fun h => e _ _ h) fun ⟨h0, o, h, q⟩ => ⟨h0, o, e _ _ h, q⟩
/-- the plan d stands at x -/
structure PlanAt (H : Hp) (C x : Addr) (d : PlanD) : Prop where
  ex : ∃ (dx tp tb td tg ts : Addr) (kt kg : List (Key × V)), H x = some (.ins C dx [("places", .ref tp), ("begin", .ref tb), ("taken", .ref td), ("given", .ref tg), ("steps", .ref ts)]) ∧
    TupX d.places.isEmpty H tp (d.places.map V.str) ∧ H tb = some (.tup (d.begin.map V.int)) ∧ H td = some (.dK kt) ∧ H tg = some (.dK kg) ∧ TupB d.names.isEmpty H ts (d.names.map V.str) ∧
    TabAt H kt (d.steps.map fun s => (s.1, s.2.1)) ∧ TabAt H kg (d.steps.map fun s => (s.1, s.2.2))
theorem Paired.imp2 {α β : Type} {R S : α → β → Prop} (h : ∀ a b, R a b → S a b) : ∀ {l : List α} {m : List β}, Paired R l m → Paired S l m
  | _, _, .nil => .nil
  | _, _, .cons x y => .cons (h _ _ x) (Paired.imp2 h y)
theorem TabAt.keep {H H' : Hp} {kvs : List (Key × V)} {rows : List (Str × List Str)} (h : TabAt H kvs rows) (e : ∀ t l, H t = some (.tup l) → H' t = some (.tup l)) : TabAt H' kvs rows :=
  Paired.imp2 (fun _ _ ⟨h1, t, h2, h3⟩ => ⟨h1, t, h2, e t _ h3⟩) h
theorem PlanAt.keep {H H' : Hp} {C x : Addr} {d : PlanD} (h : PlanAt H C x d) (e : Same H H') : PlanAt H' C x d := by
  obtain ⟨dx, tp, tb, td, tg, ts, kt, kg, h1, h2, h3, h4, h5, h6, h7, h8⟩ := h.ex
  exact ⟨dx, tp, tb, td, tg, ts, kt, kg, e _ _ h1, h2.mono e, e _ _ h3, e _ _ h4, e _ _ h5, h6.mono e, h7.keep fun _ _ => e _ _, h8.keep fun _ _ => e _ _⟩
/-- rows of places, rows of steps, in the heap -/
def PRows (H : Hp) (a : Addr) (prs : List (Str × Int)) : Prop := ∃ ts : List Addr, H a = some (.lst (ts.map V.ref)) ∧ Paired (fun t (r : Str × Int) => H t = some (.tup [.str r.1, .int r.2])) ts prs
/-- a row of a step at t, its lists other than the one at a -/
def SRowIn (H : Hp) (a t : Addr) (r : SRow) : Prop := ∃ b c, H t = some (.tup [.str r.1, .ref b, .ref c]) ∧ H b = some (.lst (r.2.1.map V.str)) ∧ H c = some (.lst (r.2.2.map V.str)) ∧ b ≠ a ∧ c ≠ a
def SRows (H : Hp) (a : Addr) (srs : List SRow) : Prop := ∃ ts : List Addr, H a = some (.lst (ts.map V.ref)) ∧ Paired (SRowIn H a) ts srs
theorem PRows.keep {H H' : Hp} {a : Addr} {prs : List (Str × Int)} (h : PRows H a prs) (e : Same H H') : PRows H' a prs := by
  obtain ⟨ts, h1, h2⟩ := h
  exact ⟨ts, e _ _ h1, Paired.imp2 (fun _ _ h => e _ _ h) h2⟩
theorem SRows.keep {H H' : Hp} {a : Addr} {srs : List SRow} (h : SRows H a srs) (e : Same H H') : SRows H' a srs := by
  obtain ⟨ts, h1, h2⟩ := h
  exact ⟨ts, e _ _ h1, Paired.imp2 (fun _ _ ⟨b, c, x, y, z, u⟩ => ⟨b, c, e _ _ x, e _ _ y, e _ _ z, u⟩) h2⟩
theorem Paired.get {α β : Type} {R : α → β → Prop} : ∀ {l : List α} {m : List β} {i : Nat} {a : α}, Paired R l m → l[i]? = some a → ∃ b, m[i]? = some b ∧ R a b
  | _, _, _, _, .nil, h => by simp at h
  | _, _, 0, _, .cons x _, h => by cases h; exact ⟨_, rfl, x⟩
  | _, _, i + 1, _, .cons _ y, h => Paired.get (i := i) y h
theorem Paired.len {α β : Type} {R : α → β → Prop} : ∀ {l : List α} {m : List β}, Paired R l m → l.length = m.length
  | _, _, .nil => rfl
  | _, _, .cons _ y => by rw [List.length_cons, List.length_cons, Paired.len y]
theorem Paired.snoc {α β : Type} {R : α → β → Prop} {a : α} {b : β} (h : R a b) : ∀ {l : List α} {m : List β}, Paired R l m → Paired R (l ++ [a]) (m ++ [b])
  | _, _, .nil => .cons h .nil
  | _, _, .cons x y => .cons x (Paired.snoc h y)
/-- the classes of the errors of a plan -/
structure ECs where
  tooMany : Addr
  badWord : Addr
  double : Addr
  badNumber : Addr
  empty : Addr
  unknown : Addr
def PErr.cls (cs : ECs) : PErr → Addr
  | .tooMany _ _ => cs.tooMany
  | .badWord _ => cs.badWord
  | .double _ => cs.double
  | .badNumber _ => cs.badNumber
  | .empty _ => cs.empty
  | .unknown _ => cs.unknown
def PErr.fields : PErr → List (Str × V)
  | .tooMany k l => [("limit", .int l), ("kind", .str k)]
  | .badWord w => [("word", .str w)]
  | .double n => [("name", .str n)]
  | .badNumber n => [("number", .int n)]
  | .empty n => [("name", .str n)]
  | .unknown n => [("name", .str n)]
/-- the same, but the object at x may have changed -/
def RaisX (cs : ECs) (E : XK) (x : Addr) (H : Hp) (e : PErr) : Prop := ∀ H' d, SameB x H H' → H d = none → H' d = some (.xd e.fields) → E (.ref (e.cls cs)) (some d) H'
theorem RaisX.go {cs : ECs} {E : XK} {x d : Addr} {H H' : Hp} {e : PErr} (h : RaisX cs E x H e) (sm : SameB x H H') (n : H' d = none) (hx : ∃ o, H' x = some o) : E (.ref (e.cls cs)) (some d) (upd H' d (.xd e.fields)) := by
  have hd : d ≠ x := fun q => by
    obtain ⟨o, ho⟩ := hx
    rw [q, ho] at n
    cases n
  exact h _ d (fun a o ha e => by rw [upd_ne (ne_of_none (sm a o ha e) n)]; exact sm a o ha e) (sm.free hd n) upd_same
theorem tup_ne {b l : Addr} {H : Hp} {a : Addr} {xs : List V} (hb : Box H b l) (h : H a = some (.tup xs)) : a ≠ b := fun q => by
  obtain ⟨ns, i, c, r, hb, _⟩ := hb.ex
  rw [q, hb] at h
  cases h
end L2
set_option Elab.async false
set_option linter.all false
set_option maxRecDepth 100000
set_option maxHeartbeats 4000000
namespace L2
open PySem PySem.Spec PyProof.Rows PySem.HErr
theorem Same.mut {p : Addr} {H H' : Hp} {o : HO} (h : Same H H') (n : H p = none) : Same H (upd H' p o) := fun a u e => by
  rw [upd_ne (ne_of_none e n)]
  exact h a u e
theorem Bx.tup {b l : Addr} {H H' : Hp} {a : Addr} {xs : List V} (x : Bx b l H H') (h : H a = some (.tup xs)) : H' a = some (.tup xs) := x.at h (tup_ne x.b0 h)
theorem Paired.take {α β : Type} {R : α → β → Prop} : ∀ {l : List α} {m : List β} (i : Nat), Paired R l m → Paired R (l.take i) (m.take i)
  | _, _, 0, _ => .nil
  | _, _, _ + 1, .nil => .nil
  | _, _, i + 1, .cons x y => .cons x (Paired.take i y)
theorem Paired.drop {α β : Type} {R : α → β → Prop} : ∀ {l : List α} {m : List β} (i : Nat), Paired R l m → Paired R (l.drop i) (m.drop i)
  | _, _, 0, h => h
  | _, _, _ + 1, .nil => .nil
  | _, _, i + 1, .cons _ y => Paired.drop i y
theorem Paired.app {α β : Type} {R : α → β → Prop} : ∀ {l : List α} {m : List β} {l' : List α} {m' : List β}, Paired R l m → Paired R l' m' → Paired R (l ++ l') (m ++ m')
  | _, _, _, _, .nil, h => h
  | _, _, _, _, .cons x y, h => .cons x (Paired.app y h)
theorem Paired.get' {α β : Type} {R : α → β → Prop} : ∀ {l : List α} {m : List β} {i : Nat} {b : β}, Paired R l m → m[i]? = some b → ∃ a, l[i]? = some a ∧ R a b
  | _, _, _, _, .nil, h => by simp at h
  | _, _, 0, _, .cons x _, h => by cases h; exact ⟨_, rfl, x⟩
  | _, _, i + 1, _, .cons _ y, h => Paired.get' (i := i) y h
theorem drop_at {α : Type} {l : List α} {i : Nat} {n : α} (h : l[i]? = some n) : l.drop i = n :: l.drop (i + 1) := List.drop_eq_getElem?_toList_append.trans (by rw [h]; rfl)
theorem SRowIn.keep {H H' : Hp} {a t : Addr} {r : SRow} (h : SRowIn H a t r) (e : Same H H') : SRowIn H' a t r := by
  obtain ⟨b, c, x, y, z, u⟩ := h
  exact ⟨b, c, e _ _ x, e _ _ y, e _ _ z, u⟩
theorem Paired.same {H H' : Hp} {ts : List Addr} {prs : List (Str × Int)} (h : Paired (fun t (r : Str × Int) => H t = some (.tup [.str r.1, .int r.2])) ts prs) (e : Same H H') : Paired (fun t (r : Str × Int) => H' t = some (.tup [.str r.1, .int r.2])) ts prs := Paired.imp2 (fun _ _ h => e _ _ h) h
theorem nodup_snoc {α : Type} {l : List α} {a : α} (h : l.Nodup) (n : a ∉ l) : (l ++ [a]).Nodup := by
  rw [List.nodup_append]
  exact ⟨h, by simp, fun x hx y hy e => by rw [List.mem_singleton.mp hy] at e; rw [e] at hx; exact n hx⟩
end L2
set_option Elab.async false
set_option linter.all false
set_option maxRecDepth 100000
set_option maxHeartbeats 4000000
namespace L2
open PySem PySem.Spec PyProof.Rows PySem.HErr
end L2
set_option Elab.async false
set_option linter.all false
set_option maxRecDepth 100000
set_option maxHeartbeats 4000000
namespace L2
open PySem PySem.Spec PyProof.Rows PySem.HErr
/-- what a value is, in the frozen heap -/
structure Vp where
  p : Hp → V → Prop
  mono : ∀ {F F' : Hp} {v : V}, Same F F' → p F v → p F' v
/-- how a thing of Lean stands for a value -/
structure Rep (α : Type) where
  p : Hp → V → α → Prop
  mono : ∀ {F F' : Hp} {v : V} {x : α}, Same F F' → p F v x → p F' v x
def iz {α : Type} (r : Rep α) (x : α) : Vp := ⟨fun F v => r.p F v x, fun e h => r.mono e h⟩
def zAt (a : Addr) : Vp := ⟨fun _ v => v = .ref a, fun _ h => h⟩
def zNon : Vp := ⟨fun _ v => v = .non, fun _ h => h⟩
def zI : Rep Int := ⟨fun _ v x => v = .int x, fun _ h => h⟩
def zB : Rep Bool := ⟨fun _ v x => v = .bl x, fun _ h => h⟩
def zS : Rep Str := ⟨fun _ v x => v = .str x ∧ Asc x, fun _ h => h⟩
abbrev PVs {α : Type} (r : Rep α) (F : Hp) (vs : List V) (xs : List α) : Prop := Paired (fun v x => r.p F v x) vs xs
def zL {α : Type} (r : Rep α) : Rep (List α) := ⟨fun F v xs => ∃ a vs, v = .ref a ∧ F a = some (.lst vs) ∧ PVs r F vs xs, fun e ⟨a, vs, h1, h2, h3⟩ => ⟨a, vs, h1, e _ _ h2, Paired.imp2 (fun _ _ h => r.mono e h) h3⟩⟩
def isSD : PyData → Bool
  | .str _ => true
  | _ => false
def isSDs (ds : List PyData) : Bool := !ds.isEmpty && ds.all isSD
/-- which tuples stand at a place that holds nothing but the tuple (such may be keys of dicts); the place of another one may be known to be bare -/
class TNar (α : Type) where
  nar : List α → Bool
/-- all of them do -/
class TAll (α : Type) [TNar α] : Prop where
  all : ∀ xs : List α, TNar.nar xs = true
instance : TNar Int := ⟨fun _ => true⟩
instance : TAll Int := ⟨fun _ => rfl⟩
instance : TNar Str := ⟨fun xs => xs.isEmpty⟩
instance : TNar PyData := ⟨fun ds => !isSDs ds⟩
instance : TNar Bool := ⟨fun _ => true⟩
instance : TAll Bool := ⟨fun _ => rfl⟩
instance : TNar Unit := ⟨fun _ => true⟩
instance : TAll Unit := ⟨fun _ => rfl⟩
instance {α β : Type} : TNar (α × β) := ⟨fun _ => true⟩
instance {α β : Type} : TAll (α × β) := ⟨fun _ => rfl⟩
instance {α : Type} : TNar (List α) := ⟨fun _ => true⟩
instance {α : Type} : TAll (List α) := ⟨fun _ => rfl⟩
instance {α : Type} : TNar (Option α) := ⟨fun _ => true⟩
instance {α : Type} : TAll (Option α) := ⟨fun _ => rfl⟩
instance {α β : Type} : TNar (α ⊕ β) := ⟨fun _ => true⟩
instance {α β : Type} : TAll (α ⊕ β) := ⟨fun _ => rfl⟩
theorem TupX.tb {n : Bool} {F : Hp} {a : Addr} {vs : List V} (h : TupX n F a vs) : TupB n F a vs := h.imp (fun h => h.2) id
theorem TupB.rd {n : Bool} {F : Hp} {a : Addr} {vs : List V} (h : TupB n F a vs) : Rd F a (.tup vs) := h.elim .inl fun ⟨_, o, h, _⟩ => .inr ⟨o, h⟩
theorem TupB.nar {n : Bool} {F : Hp} {a : Addr} {vs : List V} (h : TupB n F a vs) (e : n = true) : F a = some (.tup vs) := h.elim id fun ⟨h0, _⟩ => by rw [e] at h0; cases h0
theorem TupB.sq {n : Bool} {K : PySem.W.Frag} {F H : Hp} {a : Addr} {vs : List V} (h : TupB n F a vs) (e : Same F H) : SqT K H a vs := .inl (h.mono e).rd
def zT {α : Type} [k : TNar α] (r : Rep α) : Rep (List α) := ⟨fun F v xs => ∃ a vs, v = .ref a ∧ TupB (k.nar xs) F a vs ∧ PVs r F vs xs, fun e ⟨a, vs, h1, h2, h3⟩ => ⟨a, vs, h1, h2.mono e, Paired.imp2 (fun _ _ h => r.mono e h) h3⟩⟩
def z2 {α β : Type} (r : Rep α) (s : Rep β) : Rep (α × β) := ⟨fun F v x => ∃ a u w, v = .ref a ∧ F a = some (.tup [u, w]) ∧ r.p F u x.1 ∧ s.p F w x.2, fun e ⟨a, u, w, h1, h2, h3, h4⟩ => ⟨a, u, w, h1, e _ _ h2, r.mono e h3, s.mono e h4⟩⟩
def z3 {α β γ : Type} (r : Rep α) (s : Rep β) (t : Rep γ) : Rep (α × β × γ) := ⟨fun F v x => ∃ a u w z, v = .ref a ∧ F a = some (.tup [u, w, z]) ∧ r.p F u x.1 ∧ s.p F w x.2.1 ∧ t.p F z x.2.2, fun e ⟨a, u, w, z, h1, h2, h3, h4, h5⟩ => ⟨a, u, w, z, h1, e _ _ h2, r.mono e h3, s.mono e h4, t.mono e h5⟩⟩
structure Cel where
  a : Addr
  own : Bool
  φ : Hp → HO → Prop
  mono : ∀ {F F' : Hp} {o : HO}, Same F F' → φ F o → φ F' o
  nt : ∀ {F : Hp} {o : HO} {vs : List V}, φ F o → o = .tup vs → False
/-- what F' may know beyond F: what is new, and tuples -/
def Nwr (F H : Hp) (a : Addr) (o : HO) : Prop := (∃ o', F a = some o') ∨ H a = none ∨ ∃ vs, o = .tup vs
def cL {α : Type} (a : Addr) (r : Rep α) (xs : List α) : Cel := ⟨a, true, fun F o => ∃ vs, o = .lst vs ∧ PVs r F vs xs, fun e ⟨vs, h1, h2⟩ => ⟨vs, h1, Paired.imp2 (fun _ _ h => r.mono e h) h2⟩, fun h e => by subst e; simp at h⟩
/-- the law's box at b, its script at l -/
def cBox (own : Bool) (b l : Addr) : Cel := ⟨b, own, fun F o => ∃ (ns : List Int) (i c r : Int), o = .lst [.int i, .int c, .int r, .ref l] ∧ F l = some (.lst (ns.map V.int)) ∧ 0 ≤ i, fun e ⟨ns, i, c, r, h1, h2, h3⟩ => ⟨ns, i, c, r, h1, e _ _ h2, h3⟩, fun h e => by subst e; simp at h⟩
/-- what stood at the beginning: F0 frozen, H0 all, B lent -/
structure Fr where
  F0 : Hp
  H0 : Hp
  B : List Addr
structure OkF (fr : Fr) (Θ : List Cel) (F H : Hp) : Prop where
  fh : Same F H
  f0 : Same fr.F0 F
  nw : ∀ a o, F a = some o → Nwr fr.F0 fr.H0 a o
  h0 : ∀ a o, a ∉ fr.B → fr.H0 a = some o → H a = some o
  al : ∀ a o, fr.H0 a = some o → ∃ o', H a = some o'
  nd : (Θ.map Cel.a).Nodup
  ce : ∀ c ∈ Θ, F c.a = none ∧ (∃ o, H c.a = some o ∧ c.φ F o) ∧ (if c.own = true then fr.H0 c.a = none else c.a ∈ fr.B)
section
variable {fr : Fr} {Θ : List Cel} {F F' H H' : Hp}
theorem OkF.h0n (k : OkF fr Θ F H) {p : Addr} (n : H p = none) : fr.H0 p = none := by
  cases q : fr.H0 p with
  | none => rfl
  | some o =>
    obtain ⟨o', h⟩ := k.al p o q
    rw [n] at h
    cases h
theorem OkF.new {p : Addr} {o : HO} (k : OkF fr Θ F H) (n : H p = none) : OkF fr Θ (upd F p o) (upd H p o) := by
  have nF : F p = none := k.fh.free n
  refine ⟨fun a u h => ?_, k.f0.trans (same_upd nF), fun a u h => ?_, fun a u hB h => ?_, fun a u h => ?_, k.nd, fun c hc => ?_⟩
  · by_cases e : a = p
    · subst e
      rw [upd_same] at h ⊢
      exact h
    · rw [upd_ne e] at h ⊢
      exact k.fh a u h
  · by_cases e : a = p
    · subst e
      exact .inr (.inl (k.h0n n))
    · rw [upd_ne e] at h
      exact k.nw a u h
  · have := k.h0 a u hB h
    rw [upd_ne (ne_of_none this n)]
    exact this
  · obtain ⟨o', h'⟩ := k.al a u h
    exact ⟨o', by rw [upd_ne (ne_of_none h' n)]; exact h'⟩
  · obtain ⟨h1, ⟨u, h2, h3⟩, h4⟩ := k.ce c hc
    have ne := ne_of_none h2 n
    exact ⟨by rw [upd_ne ne]; exact h1, ⟨u, by rw [upd_ne ne]; exact h2, c.mono (same_upd nF) h3⟩, h4⟩
theorem OkF.sameF {p : Addr} {o : HO} (k : OkF fr Θ F H) (n : H p = none) : Same F (upd F p o) := same_upd (k.fh.free n)
theorem OkF.mkOwn {c : Cel} {o : HO} (k : OkF fr Θ F H) (n : H c.a = none) (ho : c.own = true) (h : c.φ F o) : OkF fr (c :: Θ) F (upd H c.a o) := by
  refine ⟨k.fh.trans (same_upd n), k.f0, k.nw, fun a u hB h => ?_, fun a u h => ?_, ?_, fun d hd => ?_⟩
  · have := k.h0 a u hB h
    rw [upd_ne (ne_of_none this n)]
    exact this
  · obtain ⟨o', h'⟩ := k.al a u h
    exact ⟨o', by rw [upd_ne (ne_of_none h' n)]; exact h'⟩
  · rw [List.map_cons, List.nodup_cons]
    refine ⟨fun hm => ?_, k.nd⟩
    obtain ⟨d, hd, e⟩ := List.mem_map.mp hm
    obtain ⟨_, ⟨u, h2, _⟩, _⟩ := k.ce d hd
    rw [e, n] at h2
    cases h2
  · rcases List.mem_cons.mp hd with rfl | hd
    · exact ⟨k.fh.free n, ⟨o, upd_same, h⟩, by rw [if_pos ho]; exact k.h0n n⟩
    · obtain ⟨h1, ⟨u, h2, h3⟩, h4⟩ := k.ce d hd
      exact ⟨h1, ⟨u, by rw [upd_ne (ne_of_none h2 n)]; exact h2, h3⟩, h4⟩
theorem nodup_at {l : List Cel} (h : (l.map Cel.a).Nodup) {i : Nat} {c d : Cel} (hi : l[i]? = some c) {j : Nat} (hj : l[j]? = some d) (e : d.a = c.a) : i = j := by
  have hi' : (l.map Cel.a)[i]? = some c.a := by rw [List.getElem?_map, hi]; rfl
  have hj' : (l.map Cel.a)[j]? = some c.a := by rw [List.getElem?_map, hj, ← e]; rfl
  exact (List.getElem?_inj (List.getElem?_eq_some_iff.mp hi').1 h).mp (hi'.trans hj'.symm)
/-- a cell's content changes -/
theorem OkF.mut {i : Nat} {c c' : Cel} {o : HO} (k : OkF fr Θ F H) (hi : Θ[i]? = some c) (ha : c'.a = c.a) (ho : c'.own = c.own) (h : c'.φ F o) : OkF fr (Θ.set i c') F (upd H c.a o) := by
  have hm := List.mem_of_getElem? hi
  obtain ⟨h1, ⟨u0, h2, h3⟩, h4⟩ := k.ce c hm
  refine ⟨fun a u h => ?_, k.f0, k.nw, fun a u hB h => ?_, fun a u h => ?_, ?_, fun d hd => ?_⟩
  · have ne : a ≠ c.a := fun e => by rw [e, h1] at h; cases h
    rw [upd_ne ne]
    exact k.fh a u h
  · have ne : a ≠ c.a := fun e => by
      cases q : c.own with
      | true =>
        rw [if_pos q] at h4
        rw [e, h4] at h
        cases h
      | false =>
        rw [if_neg (by rw [q]; exact Bool.false_ne_true)] at h4
        rw [e] at hB
        exact hB h4
    rw [upd_ne ne]
    exact k.h0 a u hB h
  · by_cases e : a = c.a
    · exact ⟨o, by rw [e]; exact upd_same⟩
    · rw [upd_ne e]
      exact k.al a u h
  · have : (Θ.set i c').map Cel.a = Θ.map Cel.a := by
      rw [List.map_set, ha]
      apply List.ext_getElem?
      intro j
      rw [List.getElem?_set]
      split
      · rename_i e
        subst e
        rw [List.getElem?_map, hi]
        have hlt : i < (Θ.map Cel.a).length := by
          rw [List.length_map]
          exact (List.getElem?_eq_some_iff.mp hi).1
        rw [if_pos hlt]
        rfl
      · rfl
    rw [this]
    exact k.nd
  · obtain ⟨j, hj⟩ := List.getElem?_of_mem hd
    rw [List.getElem?_set] at hj
    split at hj
    · rename_i e
      split at hj
      · cases hj
        rw [ha, ho]
        exact ⟨h1, ⟨o, upd_same, h⟩, h4⟩
      · cases hj
    · rename_i e
      have hd' := List.mem_of_getElem? hj
      obtain ⟨g1, ⟨u, g2, g3⟩, g4⟩ := k.ce d hd'
      have ne : d.a ≠ c.a := fun q => e (nodup_at k.nd hi hj q)
      exact ⟨g1, ⟨u, by rw [upd_ne ne]; exact g2, g3⟩, g4⟩
/-- a cell of one's own is frozen -/
theorem OkF.frz {i : Nat} {c : Cel} {o : HO} (k : OkF fr Θ F H) (hi : Θ[i]? = some c) (ho : c.own = true) (h : H c.a = some o) : OkF fr (Θ.eraseIdx i) (upd F c.a o) H := by
  have hm := List.mem_of_getElem? hi
  obtain ⟨h1, _, h4⟩ := k.ce c hm
  rw [if_pos ho] at h4
  have hlt := (List.getElem?_eq_some_iff.mp hi).1
  refine ⟨fun a u e => ?_, k.f0.trans (same_upd h1), fun a u e => ?_, k.h0, k.al, ?_, fun d hd => ?_⟩
  · by_cases q : a = c.a
    · rw [q, upd_same] at e
      rw [q, h, e]
    · rw [upd_ne q] at e
      exact k.fh a u e
  · by_cases q : a = c.a
    · rw [q]
      exact .inr (.inl h4)
    · rw [upd_ne q] at e
      exact k.nw a u e
  · exact (List.Sublist.map Cel.a (List.eraseIdx_sublist Θ i)).nodup k.nd
  · obtain ⟨j, hj⟩ := List.getElem?_of_mem hd
    rw [List.getElem?_eraseIdx] at hj
    have key : ∀ j', j' ≠ i → Θ[j']? = some d → (upd F c.a o) d.a = none ∧ (∃ u, H d.a = some u ∧ d.φ (upd F c.a o) u) ∧ (if d.own = true then fr.H0 d.a = none else d.a ∈ fr.B) := fun j' hne hj' => by
      obtain ⟨g1, ⟨u, g2, g3⟩, g4⟩ := k.ce d (List.mem_of_getElem? hj')
      have ne : d.a ≠ c.a := fun q => hne (nodup_at k.nd hi hj' q).symm
      exact ⟨by rw [upd_ne ne]; exact g1, ⟨u, g2, d.mono (same_upd h1) g3⟩, g4⟩
    split at hj
    · exact key j (by omega) hj
    · exact key (j + 1) (by omega) hj
theorem OkF.nwr {a : Addr} {o : HO} (k : OkF fr Θ F H) (ff : Same F F') (h : F' a = some o) (n : Nwr F H a o) : Nwr fr.F0 fr.H0 a o := by
  rcases n with ⟨o', h'⟩ | h' | h'
  · have e := ff a o' h'
    rw [h] at e
    cases e
    exact k.nw a o h'
  · exact .inr (.inl (k.h0n h'))
  · exact .inr (.inr h')
/-- after a call that lets all stand -/
theorem OkF.grow (k : OkF fr Θ F H) (hh : Same H H') (ff : Same F F') (fh : Same F' H') (nw : ∀ a o, F' a = some o → Nwr F H a o) : OkF fr Θ F' H' := by
  refine ⟨fh, k.f0.trans ff, fun a o h => ?_, fun a o hB h => hh _ _ (k.h0 a o hB h), fun a o h => ?_, k.nd, fun c hc => ?_⟩
  · exact k.nwr ff h (nw a o h)
  · obtain ⟨o', h'⟩ := k.al a o h
    exact ⟨o', hh _ _ h'⟩
  · obtain ⟨h1, ⟨u, h2, h3⟩, h4⟩ := k.ce c hc
    refine ⟨?_, ⟨u, hh _ _ h2, c.mono ff h3⟩, h4⟩
    cases q : F' c.a with
    | none => rfl
    | some o =>
      rcases nw _ _ q with ⟨o', h'⟩ | h' | ⟨vs, ht⟩
      · rw [h1] at h'
        cases h'
      · rw [h2] at h'
        cases h'
      · have e1 := fh _ _ q
        rw [hh _ _ h2] at e1
        exact (c.nt h3 ((Option.some.inj e1).trans ht)).elim
/-- at the start of a def: all that stands is frozen -/
theorem OkF.start (fh : Same F H) : OkF ⟨F, H, []⟩ [] F H := ⟨fh, Same.refl F, fun a o h => .inl ⟨o, h⟩, fun _ _ _ h => h, fun _ o h => ⟨o, h⟩, List.nodup_nil, fun c hc => by cases hc⟩
end
abbrev Gam := List (Option Vp)
def EnvF (Γ : Gam) (σ : L2.St) (F : Hp) : Prop := Paired (fun (e : Option Vp) (s : Option V) => ∀ p, e = some p → ∃ v, s = some v ∧ p.p F v) Γ σ
section
variable {Γ : Gam} {σ : L2.St} {F F' : Hp}
theorem EnvF.mono (h : EnvF Γ σ F) (e : Same F F') : EnvF Γ σ F' := Paired.imp2 (fun _ _ h p hp => by
  obtain ⟨v, h1, h2⟩ := h p hp
  exact ⟨v, h1, p.mono e h2⟩) h
theorem EnvF.get {i : Nat} {p : Vp} (h : EnvF Γ σ F) (hi : Γ[i]? = some (some p)) : ∃ v, σ[i]? = some (some v) ∧ p.p F v := by
  obtain ⟨s, h1, h2⟩ := Paired.get h hi
  obtain ⟨v, rfl, h3⟩ := h2 p rfl
  exact ⟨v, h1, h3⟩
theorem Paired.set {α β : Type} {R : α → β → Prop} {a : α} {b : β} (r : R a b) : ∀ {l : List α} {m : List β} (i : Nat), Paired R l m → Paired R (l.set i a) (m.set i b)
  | _, _, _, .nil => .nil
  | _, _, 0, .cons _ t => .cons r t
  | _, _, i + 1, .cons x t => .cons x (Paired.set r i t)
theorem EnvF.set {i : Nat} {p : Vp} {v : V} (h : EnvF Γ σ F) (hp : p.p F v) : EnvF (Γ.set i (some p)) (σ.set i (some v)) F :=
  Paired.set (fun q hq => by cases hq; exact ⟨v, rfl, hp⟩) i h
theorem EnvF.drop {i : Nat} {s : Option V} (h : EnvF Γ σ F) : EnvF (Γ.set i none) (σ.set i s) F := Paired.set (fun q hq => by cases hq) i h
theorem EnvF.len (h : EnvF Γ σ F) : Γ.length = σ.length := Paired.len h
end
/-- wherever the names hold Γ and the cells Θ, P holds -/
def Kn (fr : Fr) (Γ : Gam) (Θ : List Cel) (P : L2.St → Hp → Prop) : Prop := ∀ σ F H, OkF fr Θ F H → EnvF Γ σ F → P σ H
def Kq (fr : Fr) (F : Hp) (K : Vp → List Cel → Prop) (Q : VK) : Prop := ∀ p Θ', K p Θ' → ∀ v F' H', Same F F' → OkF fr Θ' F' H' → p.p F' v → Q v H'
def Kb (fr : Fr) (F : Hp) (K : Bool → List Cel → Prop) (Q : Bool → Hp → Prop) : Prop := ∀ b Θ', K b Θ' → ∀ F' H', Same F F' → OkF fr Θ' F' H' → Q b H'
def Ka (fr : Fr) (F : Hp) (K : List Vp → List Cel → Prop) (Q : List V → Hp → Prop) : Prop := ∀ ps Θ', K ps Θ' → ∀ vs F' H', Same F F' → OkF fr Θ' F' H' → Paired (fun (p : Vp) v => p.p F' v) ps vs → Q vs H'
def Ko (fr : Fr) (F : Hp) (K : Option Int → List Cel → Prop) (Q : Option Int → Hp → Prop) : Prop := ∀ b Θ', K b Θ' → ∀ F' H', Same F F' → OkF fr Θ' F' H' → Q b H'
def We (fr : Fr) (Γ : Gam) (Θ : List Cel) (t : TE) (K : Vp → List Cel → Prop) : Prop := ∀ σ F H, OkF fr Θ F H → EnvF Γ σ F → ∀ Q, Kq fr F K Q → t σ H Q
def Wt (fr : Fr) (Γ : Gam) (Θ : List Cel) (t : TT) (K : Bool → List Cel → Prop) : Prop := ∀ σ F H, OkF fr Θ F H → EnvF Γ σ F → ∀ Q, Kb fr F K Q → t σ H Q
def Wa (fr : Fr) (Γ : Gam) (Θ : List Cel) (t : TA) (K : List Vp → List Cel → Prop) : Prop := ∀ σ F H, OkF fr Θ F H → EnvF Γ σ F → ∀ Q, Ka fr F K Q → t σ H Q
def Wo (fr : Fr) (Γ : Gam) (Θ : List Cel) (t : TO) (K : Option Int → List Cel → Prop) : Prop := ∀ σ F H, OkF fr Θ F H → EnvF Γ σ F → ∀ Q, Ko fr F K Q → t σ H Q
/-- by values -/
def Ops (fr : Fr) (Θ : List Cel) (r : R2) (p q : Vp) (K : Vp → List Cel → Prop) : Prop := ∀ F H v w, OkF fr Θ F H → p.p F v → q.p F w → ∀ Q, Kq fr F K Q → r v w H Q
def Uns (fr : Fr) (Θ : List Cel) (r : V → Hp → VK → Prop) (p : Vp) (K : Vp → List Cel → Prop) : Prop := ∀ F H v, OkF fr Θ F H → p.p F v → ∀ Q, Kq fr F K Q → r v H Q
def Cbs (fr : Fr) (Θ : List Cel) (r : List V → Hp → VK → Prop) (ps : List Vp) (K : Vp → List Cel → Prop) : Prop := ∀ F H vs, OkF fr Θ F H → Paired (fun (p : Vp) v => p.p F v) ps vs → ∀ Q, Kq fr F K Q → r vs H Q
def Mts (fr : Fr) (Θ : List Cel) (r : V → List V → Hp → VK → Prop) (p : Vp) (ps : List Vp) (K : Vp → List Cel → Prop) : Prop := ∀ F H v vs, OkF fr Θ F H → p.p F v → Paired (fun (p : Vp) v => p.p F v) ps vs → ∀ Q, Kq fr F K Q → r v vs H Q
def Sls (fr : Fr) (Θ : List Cel) (r : V → Option Int → Option Int → Hp → VK → Prop) (p : Vp) (lo hi : Option Int) (K : Vp → List Cel → Prop) : Prop := ∀ F H v, OkF fr Θ F H → p.p F v → ∀ Q, Kq fr F K Q → r v lo hi H Q
/-- the value alone, and nothing else changes -/
abbrev Ev (fr : Fr) (Γ : Gam) (Θ : List Cel) (t : TE) (p : Vp) : Prop := We fr Γ Θ t fun q Θ' => q = p ∧ Θ' = Θ
abbrev Et (fr : Fr) (Γ : Gam) (Θ : List Cel) (t : TT) (b : Bool) : Prop := Wt fr Γ Θ t fun c Θ' => c = b ∧ Θ' = Θ
section
variable {fr : Fr} {Γ Γ' : Gam} {Θ : List Cel} {F F' H H' : Hp} {K : Vp → List Cel → Prop} {Q : VK}
theorem Kq.mono (h : Kq fr F K Q) (e : Same F F') : Kq fr F' K Q := fun p Θ' k v F2 H2 s2 => h p Θ' k v F2 H2 (e.trans s2)
theorem Kq.go {p : Vp} {v : V} (h : Kq fr F K Q) (k : K p Θ) (ok : OkF fr Θ F H) (hp : p.p F v) : Q v H := h p Θ k v F H (Same.refl F) ok hp
/-- a new object -/
theorem Kq.new {p : Vp} {a : Addr} {o : HO} (h : Kq fr F K Q) (k : K p Θ) (ok : OkF fr Θ F H) (n : H a = none) (hp : p.p (upd F a o) (.ref a)) : Q (.ref a) (upd H a o) := h p Θ k _ _ _ (ok.sameF n) (ok.new n) hp
theorem We.imp {t : TE} {K' : Vp → List Cel → Prop} (w : We fr Γ Θ t K) (h : ∀ p Θ', K p Θ' → K' p Θ') : We fr Γ Θ t K' := fun σ F H ok env Q q => w σ F H ok env Q fun p Θ' k => q p Θ' (h p Θ' k)
theorem we_var {i : Nat} {p : Vp} (h : Γ[i]? = some (some p)) (k : K p Θ) : We fr Γ Θ (tVar i) K := fun σ F H ok env Q q => by
  obtain ⟨v, h1, h2⟩ := env.get h
  exact ⟨v, h1, q.go k ok h2⟩
theorem we_c {v : V} {p : Vp} (hp : ∀ F, p.p F v) (k : K p Θ) : We fr Γ Θ (tC v) K := fun σ F H ok env Q q => q.go k ok (hp F)
theorem we_cI {n : Int} (k : K (iz zI n) Θ) : We fr Γ Θ (tC (.int n)) K := we_c (fun _ => rfl) k
theorem we_cS {z : Str} (h : Asc z) (k : K (iz zS z) Θ) : We fr Γ Θ (tC (.str z)) K := we_c (p := iz zS z) (fun _ => ⟨rfl, h⟩) k
theorem we_cB {b : Bool} (k : K (iz zB b) Θ) : We fr Γ Θ (tC (.bl b)) K := we_c (fun _ => rfl) k
theorem we_cN (k : K zNon Θ) : We fr Γ Θ (tC .non) K := we_c (fun _ => rfl) k
theorem we_op {r : R2} {ta tb : TE} (w : We fr Γ Θ ta fun p Θ1 => We fr Γ Θ1 tb fun q Θ2 => Ops fr Θ2 r p q K) : We fr Γ Θ (tOp r ta tb) K := fun σ F H ok env Q q =>
  w σ F H ok env _ fun p Θ1 k v F1 H1 s1 ok1 hp => k σ F1 H1 ok1 (env.mono s1) _ fun p2 Θ2 k2 v2 F2 H2 s2 ok2 hp2 => k2 F2 H2 v v2 ok2 (p.mono s2 hp) hp2 Q (q.mono (s1.trans s2))
theorem we_un {r : V → Hp → VK → Prop} {ta : TE} (w : We fr Γ Θ ta fun p Θ1 => Uns fr Θ1 r p K) : We fr Γ Θ (tUn r ta) K := fun σ F H ok env Q q =>
  w σ F H ok env _ fun p Θ1 k v F1 H1 s1 ok1 hp => k F1 H1 v ok1 hp Q (q.mono s1)
theorem wa_nil {K : List Vp → List Cel → Prop} (k : K [] Θ) : Wa fr Γ Θ tNil K := fun σ F H ok env Q q => q [] Θ k [] F H (Same.refl F) ok .nil
theorem wa_cons {K : List Vp → List Cel → Prop} {ta : TE} {tr : TA} (w : We fr Γ Θ ta fun p Θ1 => Wa fr Γ Θ1 tr fun ps Θ2 => K (p :: ps) Θ2) : Wa fr Γ Θ (tCons ta tr) K := fun σ F H ok env Q q =>
  w σ F H ok env _ fun p Θ1 k v F1 H1 s1 ok1 hp => k σ F1 H1 ok1 (env.mono s1) _ fun ps Θ2 k2 vs F2 H2 s2 ok2 hps => q (p :: ps) Θ2 k2 (v :: vs) F2 H2 (s1.trans s2) ok2 (.cons (p.mono s2 hp) hps)
theorem we_cb {r : List V → Hp → VK → Prop} {t : TA} (w : Wa fr Γ Θ t fun ps Θ1 => Cbs fr Θ1 r ps K) : We fr Γ Θ (tCB r t) K := fun σ F H ok env Q q =>
  w σ F H ok env _ fun ps Θ1 k vs F1 H1 s1 ok1 hps => k F1 H1 vs ok1 hps Q (q.mono s1)
theorem we_bm {Kf : PySem.W.Frag} {T : String} {r : V → List V → Hp → VK → Prop} {to : TE} {t : TA} (w : We fr Γ Θ to fun p Θ1 => (∀ F H v, OkF fr Θ1 F H → p.p F v → tyV Kf T v H) ∧ Wa fr Γ Θ1 t fun ps Θ2 => Mts fr Θ2 r p ps K) : We fr Γ Θ (tBM Kf T r to t) K := fun σ F H ok env Q q =>
  w σ F H ok env _ fun p Θ1 ⟨kt, k⟩ v F1 H1 s1 ok1 hp => ⟨kt F1 H1 v ok1 hp, k σ F1 H1 ok1 (env.mono s1) _ fun ps Θ2 k2 vs F2 H2 s2 ok2 hps => k2 F2 H2 v vs ok2 (p.mono s2 hp) hps Q (q.mono (s1.trans s2))⟩
theorem wo_none {K : Option Int → List Cel → Prop} (k : K none Θ) : Wo fr Γ Θ tNoPart K := fun σ F H ok env Q q => q none Θ k F H (Same.refl F) ok
theorem wo_some {K : Option Int → List Cel → Prop} {t : TE} (w : We fr Γ Θ t fun p Θ1 => ∃ n, p = iz zI n ∧ K (some n) Θ1) : Wo fr Γ Θ (tPart t) K := fun σ F H ok env Q q =>
  w σ F H ok env _ fun p Θ1 ⟨n, e, k⟩ v F1 H1 s1 ok1 hp => by
    subst e
    exact ⟨n, hp, q (some n) Θ1 k F1 H1 s1 ok1⟩
theorem we_sl {r : V → Option Int → Option Int → Hp → VK → Prop} {te : TE} {tl th : TO} (w : We fr Γ Θ te fun p Θ1 => Wo fr Γ Θ1 tl fun lo Θ2 => Wo fr Γ Θ2 th fun hi Θ3 => Sls fr Θ3 r p lo hi K) : We fr Γ Θ (tSl r te tl th) K := fun σ F H ok env Q q =>
  w σ F H ok env _ fun p Θ1 k v F1 H1 s1 ok1 hp => k σ F1 H1 ok1 (env.mono s1) _ fun lo Θ2 k2 F2 H2 s2 ok2 => k2 σ F2 H2 ok2 ((env.mono s1).mono s2) _ fun hi Θ3 k3 F3 H3 s3 ok3 =>
    k3 F3 H3 v ok3 (p.mono (s2.trans s3) hp) Q (q.mono ((s1.trans s2).trans s3))
theorem wt_test {K : Bool → List Cel → Prop} {t : TE} (w : We fr Γ Θ t fun p Θ1 => ∃ b, p = iz zB b ∧ K b Θ1) : Wt fr Γ Θ (tTest t) K := fun σ F H ok env Q q =>
  w σ F H ok env _ fun p Θ1 ⟨b, e, k⟩ v F1 H1 s1 ok1 hp => by
    subst e
    exact ⟨b, hp, q b Θ1 k F1 H1 s1 ok1⟩
theorem wt_b {K : Bool → List Cel → Prop} {t : TE} (w : We fr Γ Θ t fun p Θ1 => ∃ b, p = iz zB b ∧ K b Θ1) : Wt fr Γ Θ (tB t) K := wt_test (fr := fr) w
theorem wt_not {K : Bool → List Cel → Prop} {t : TT} (w : Wt fr Γ Θ t fun b Θ1 => K (!b) Θ1) : Wt fr Γ Θ (tNot t) K := fun σ F H ok env Q q =>
  w σ F H ok env _ fun b Θ1 k F1 H1 s1 ok1 => q (!b) Θ1 k F1 H1 s1 ok1
theorem wt_and {K : Bool → List Cel → Prop} {t u : TT} {b c : Bool} (w : Et fr Γ Θ t b) (x : b = true → Et fr Γ Θ u c) (k : K (b && c) Θ) : Wt fr Γ Θ (tAnd t u) K := fun σ F H ok env Q q =>
  w σ F H ok env _ fun b1 Θ1 ⟨e1, e2⟩ F1 H1 s1 ok1 => by
    subst e1 e2
    cases b1 with
    | true =>
      rw [if_pos rfl]
      refine x rfl σ F1 H1 ok1 (env.mono s1) _ fun c1 Θ2 ⟨e1, e2⟩ F2 H2 s2 ok2 => ?_
      subst e1 e2
      exact q c1 _ k F2 H2 (s1.trans s2) ok2
    | false =>
      rw [if_neg Bool.false_ne_true]
      exact q false _ k F1 H1 s1 ok1
theorem wt_or {K : Bool → List Cel → Prop} {t u : TT} {b c : Bool} (w : Et fr Γ Θ t b) (x : b = false → Et fr Γ Θ u c) (k : K (b || c) Θ) : Wt fr Γ Θ (tOr t u) K := fun σ F H ok env Q q =>
  w σ F H ok env _ fun b1 Θ1 ⟨e1, e2⟩ F1 H1 s1 ok1 => by
    subst e1 e2
    cases b1 with
    | false =>
      rw [if_neg Bool.false_ne_true]
      refine x rfl σ F1 H1 ok1 (env.mono s1) _ fun c1 Θ2 ⟨e1, e2⟩ F2 H2 s2 ok2 => ?_
      subst e1 e2
      exact q c1 _ k F2 H2 (s1.trans s2) ok2
    | true =>
      rw [if_pos rfl]
      exact q true _ k F1 H1 s1 ok1
theorem we_not {t : TE} (w : We fr Γ Θ t fun p Θ1 => ∃ b, p = iz zB b ∧ K (iz zB (!b)) Θ1) : We fr Γ Θ (tNotV t) K := fun σ F H ok env Q q =>
  w σ F H ok env _ fun p Θ1 ⟨b, e, k⟩ v F1 H1 s1 ok1 hp => by
    subst e
    exact ⟨b, hp, q _ Θ1 k _ F1 H1 s1 ok1 rfl⟩
theorem kn_seq {t u : TS} {D : Ends} (h : Kn fr Γ Θ (t { D with nx := u D })) : Kn fr Γ Θ (tSeq t u D) := h
theorem kn_next {D : Ends} (h : Kn fr Γ Θ D.nx) : Kn fr Γ Θ (tNext D) := h
/-- a target -/
def TgR (g : TG) (vs : List Nat) (p : Vp) (Γ Γ' : Gam) : Prop := ∀ σ F H v, Same F H → EnvF Γ σ F → p.p F v → ∀ Q : L2.St → Hp → Prop, (∀ σ', EnvF Γ' σ' F → wipe σ' vs = wipe σ vs → Q σ' H) → g v σ H Q
theorem tg_name {i : Nat} {p : Vp} : TgR (gName i) [i] p Γ (Γ.set i (some p)) := fun σ F H v fh env hp Q q => q _ (env.set hp) (by
  show (σ.set i (some v)).set i none = σ.set i none
  rw [List.set_set])
theorem set_comm' {α : Type} {l : List α} {i j : Nat} {a b : α} (h : i ≠ j) : (l.set i a).set j b = (l.set j b).set i a := List.set_comm a b h
theorem tg2 {Kf : PySem.W.Frag} {i j : Nat} {α β : Type} {r : Rep α} {s : Rep β} {x : α × β} (hij : i ≠ j) : TgR (gTup Kf 2 (gCons (gName i) (gCons (gName j) gNil))) [i, j] (iz (z2 r s) x) Γ ((Γ.set i (some (iz r x.1))).set j (some (iz s x.2))) := fun σ F H v fh env hp Q q => by
  obtain ⟨a, u, w, rfl, h2, h3, h4⟩ := hp
  refine ⟨a, _, rfl, SqT.of (fh _ _ h2), rfl, u, _, rfl, w, _, rfl, rfl, q _ ((env.set (p := iz r x.1) h3).set (p := iz s x.2) h4) ?_⟩
  show ((((σ.set i (some u)).set j (some w)).set j none).set i none) = (σ.set j none).set i none
  rw [List.set_set, set_comm' hij, List.set_set]
theorem kn_asg {te : TE} {i : Nat} {D : Ends} (w : We fr Γ Θ te fun p Θ1 => Kn fr (Γ.set i (some p)) Θ1 D.nx) : Kn fr Γ Θ (tAsg te (gName i) D) := fun σ F H ok env =>
  w σ F H ok env _ fun p Θ1 k v F1 H1 s1 ok1 hp => k _ F1 H1 ok1 ((env.mono s1).set hp)
theorem kn_if {c : TT} {t u : TS} {D : Ends} (w : Wt fr Γ Θ c fun b Θ1 => (b = true → Kn fr Γ Θ1 (t D)) ∧ (b = false → Kn fr Γ Θ1 (u D))) : Kn fr Γ Θ (tIfS c t u D) := fun σ F H ok env =>
  w σ F H ok env _ fun b Θ1 ⟨k1, k2⟩ F1 H1 s1 ok1 => by
    cases b with
    | true =>
      rw [if_pos rfl]
      exact k1 rfl σ F1 H1 ok1 (env.mono s1)
    | false =>
      rw [if_neg Bool.false_ne_true]
      exact k2 rfl σ F1 H1 ok1 (env.mono s1)
/-- what is returned -/
def Rt (fr : Fr) (Θ : List Cel) (rt : VK) (p : Vp) : Prop := ∀ v F H, OkF fr Θ F H → p.p F v → rt v H
theorem kn_ret {te : TE} {D : Ends} (w : We fr Γ Θ te fun p Θ1 => Rt fr Θ1 D.rt p) : Kn fr Γ Θ (tRet te D) := fun σ F H ok env =>
  w σ F H ok env _ fun p Θ1 k v F1 H1 s1 ok1 hp => k v F1 H1 ok1 hp
theorem kn_drop {te : TE} {D : Ends} (w : We fr Γ Θ te fun p Θ1 => Kn fr Γ Θ1 D.nx) : Kn fr Γ Θ (tDrop te D) := fun σ F H ok env =>
  w σ F H ok env _ fun p Θ1 k v F1 H1 s1 ok1 hp => k σ F1 H1 ok1 (env.mono s1)
/-- less is known -/
def GLe (Γ Γ' : Gam) : Prop := Paired (fun (e e' : Option Vp) => e' = none ∨ e' = e) Γ Γ'
theorem EnvF.le {σ : L2.St} (h : EnvF Γ σ F) (l : GLe Γ Γ') : EnvF Γ' σ F := by
  induction l generalizing σ with
  | nil => exact h
  | cons a _ ih =>
    cases h with
    | cons b c =>
      refine .cons (fun p hp => ?_) (ih c)
      rcases a with a | a
      · rw [a] at hp
        cases hp
      · rw [a] at hp
        exact b p hp
theorem Kn.le {P : L2.St → Hp → Prop} (k : Kn fr Γ' Θ P) (l : GLe Γ Γ') : Kn fr Γ Θ P := fun σ F H ok env => k σ F H ok (env.le l)
/-- a point where ways meet -/
def Mid (fr : Fr) (I : Gam → List Cel → Prop) (σ : L2.St) (H : Hp) : Prop := ∃ Γ Θ F, I Γ Θ ∧ OkF fr Θ F H ∧ EnvF Γ σ F
theorem kn_mid {I : Gam → List Cel → Prop} (h : ∃ Γ', GLe Γ Γ' ∧ I Γ' Θ) : Kn fr Γ Θ (Mid fr I) := fun σ F H ok env => by
  obtain ⟨Γ', l, i⟩ := h
  exact ⟨Γ', Θ, F, i, ok, env.le l⟩
theorem kn_cut {t u : TS} {D : Ends} (I : Gam → List Cel → Prop) (h : Kn fr Γ Θ (t { D with nx := Mid fr I })) (k : ∀ Γ Θ, I Γ Θ → Kn fr Γ Θ (u D)) : Kn fr Γ Θ (C8.tCut t u D) := fun σ F H ok env =>
  ⟨Mid fr I, h σ F H ok env, fun σ' H' ⟨Γ1, Θ1, F1, i, ok1, env1⟩ => k Γ1 Θ1 i σ' F1 H' ok1 env1⟩
end
end L2
set_option Elab.async false
set_option linter.all false
set_option maxRecDepth 100000
set_option maxHeartbeats 4000000
namespace L2
open PySem PySem.Spec PyProof.Rows PySem.HErr
section
variable {fr : Fr} {Γ Γ' : Gam} {Θ : List Cel} {F F' H H' : Hp} {K : Vp → List Cel → Prop} {Q : VK}
theorem ops_I0 {h : Int → Int → Int} {m n : Int} (k : K (iz zI (h m n)) Θ) : Ops fr Θ (rI0 fun i j => .int (h i j)) (iz zI m) (iz zI n) K := fun F H v w ok hv hw Q q => ⟨m, n, hv, hw, q.go k ok rfl⟩
theorem ops_B0 {h : Int → Int → Bool} {m n : Int} (k : K (iz zB (h m n)) Θ) : Ops fr Θ (rI0 fun i j => .bl (h i j)) (iz zI m) (iz zI n) K := fun F H v w ok hv hw Q q => ⟨m, n, hv, hw, q.go k ok rfl⟩
theorem ops_IC {C : Int → Int → Prop} {h : Int → Int → Int} {m n : Int} (c : C m n) (k : K (iz zI (h m n)) Θ) : Ops fr Θ (rI C fun i j => .int (h i j)) (iz zI m) (iz zI n) K := fun F H v w ok hv hw Q q => ⟨m, n, hv, hw, c, q.go k ok rfl⟩
theorem uns_I {h : Int → Int} {m : Int} (k : K (iz zI (h m)) Θ) : Uns fr Θ (rU fun i => .int (h i)) (iz zI m) K := fun F H v ok hv Q q => ⟨m, hv, q.go k ok rfl⟩
theorem dec_inj {α : Type} [DecidableEq α] {c : α → V} (hc : ∀ x y, c x = c y → x = y) (x y : α) : decide (c x = c y) = decide (x = y) := by
  by_cases e : x = y
  · rw [e, decide_eq_true rfl, decide_eq_true rfl]
  · rw [decide_eq_false e, decide_eq_false fun q => e (hc _ _ q)]
theorem ops_eqI {m n : Int} (k : K (iz zB (decide (m = n))) Θ) : Ops fr Θ rEq (iz zI m) (iz zI n) K := fun F H v w ok hv hw Q q => by
  have hv : v = .int m := hv
  have hw : w = .int n := hw
  subst hv hw
  refine ⟨rfl, ?_⟩
  rw [dec_inj (fun x y => V.int.inj)]
  exact q.go k ok rfl
theorem ops_neI {m n : Int} (k : K (iz zB (!decide (m = n))) Θ) : Ops fr Θ rNe (iz zI m) (iz zI n) K := fun F H v w ok hv hw Q q => by
  have hv : v = .int m := hv
  have hw : w = .int n := hw
  subst hv hw
  refine ⟨rfl, ?_⟩
  rw [dec_inj (fun x y => V.int.inj)]
  exact q.go k ok rfl
theorem ops_eqS {m n : Str} (k : K (iz zB (decide (m = n))) Θ) : Ops fr Θ rEq (iz zS m) (iz zS n) K := fun F H v w ok hv hw Q q => by
  obtain ⟨hv, _⟩ := hv
  obtain ⟨hw, _⟩ := hw
  subst hv hw
  refine ⟨rfl, ?_⟩
  rw [dec_inj (fun x y => V.str.inj)]
  exact q.go k ok rfl
theorem ops_neS {m n : Str} (k : K (iz zB (!decide (m = n))) Θ) : Ops fr Θ rNe (iz zS m) (iz zS n) K := fun F H v w ok hv hw Q q => by
  obtain ⟨hv, _⟩ := hv
  obtain ⟨hw, _⟩ := hw
  subst hv hw
  refine ⟨rfl, ?_⟩
  rw [dec_inj (fun x y => V.str.inj)]
  exact q.go k ok rfl
theorem ops_eqB {m n : Bool} (k : K (iz zB (decide (m = n))) Θ) : Ops fr Θ rEq (iz zB m) (iz zB n) K := fun F H v w ok hv hw Q q => by
  have hv : v = .bl m := hv
  have hw : w = .bl n := hw
  subst hv hw
  refine ⟨rfl, ?_⟩
  rw [dec_inj (fun x y => V.bl.inj)]
  exact q.go k ok rfl
theorem ops_neB {m n : Bool} (k : K (iz zB (!decide (m = n))) Θ) : Ops fr Θ rNe (iz zB m) (iz zB n) K := fun F H v w ok hv hw Q q => by
  have hv : v = .bl m := hv
  have hw : w = .bl n := hw
  subst hv hw
  refine ⟨rfl, ?_⟩
  rw [dec_inj (fun x y => V.bl.inj)]
  exact q.go k ok rfl
theorem ops_addS {m n : Str} (hl : m.length + n.length ≤ sizeLine) (k : K (iz zS (m ++ n)) Θ) : Ops fr Θ (fun x y H Q => ∃ i j, x = .str i ∧ y = .str j ∧ i.length + j.length ≤ sizeLine ∧ Q (.str (i ++ j)) H) (iz zS m) (iz zS n) K := fun F H v w ok hv hw Q q => by
  obtain ⟨hv, a1⟩ := hv
  obtain ⟨hw, a2⟩ := hw
  exact ⟨m, n, hv, hw, hl, q.go k ok ⟨rfl, a1.app a2⟩⟩
theorem pvs_S {vs : List V} {xs : List Str} (h : PVs zS F vs xs) : vs = xs.map V.str ∧ ∀ x ∈ xs, Asc x := by
  induction h with
  | nil => exact ⟨rfl, fun x hx => by cases hx⟩
  | cons a _ ih =>
    obtain ⟨a1, a2⟩ := a
    refine ⟨by rw [a1, ih.1]; rfl, fun x hx => ?_⟩
    rcases List.mem_cons.mp hx with rfl | hx
    · exact a2
    · exact ih.2 x hx
theorem pvs_I {vs : List V} {xs : List Int} (h : PVs zI F vs xs) : vs = xs.map V.int := by
  induction h with
  | nil => rfl
  | cons a _ ih =>
    have a : _ = V.int _ := a
    rw [a, ih]
    rfl
theorem pvs_B {vs : List V} {xs : List Bool} (h : PVs zB F vs xs) : vs = xs.map V.bl := by
  induction h with
  | nil => rfl
  | cons a _ ih =>
    have a : _ = V.bl _ := a
    rw [a, ih]
    rfl
theorem inV_ints (n : Int) (ws : List Int) : inV (.int n) (ws.map V.int) = decide (n ∈ ws) := by
  induction ws with
  | nil => rfl
  | cons a ws ih =>
    unfold inV at ih ⊢
    rw [List.map_cons, List.any_cons, ih]
    have e : eqV (V.int a) (V.int n) = decide (a = n) := rfl
    rw [e]
    by_cases h : a = n
    · rw [h]
      simp
    · rw [decide_eq_false h, Bool.false_or]
      by_cases h2 : n ∈ ws
      · rw [decide_eq_true h2, decide_eq_true (List.mem_cons_of_mem _ h2)]
      · rw [decide_eq_false h2, decide_eq_false fun q => (List.mem_cons.mp q).elim (fun e => h e.symm) h2]
theorem flat_intsG (ws : List Int) : (ws.map V.int).all flatV = true := by
  rw [List.all_map, List.all_eq_true]
  intro x _
  rfl
/-- a thing whose entries are xs, to be read: a frozen list, a frozen tuple, a cell -/
def SeqP {α : Type} (fr : Fr) (Θ : List Cel) (p : Vp) (r : Rep α) (xs : List α) : Prop := ∀ F H v, OkF fr Θ F H → p.p F v → ∃ a vs, v = .ref a ∧ (Rd H a (.lst vs) ∨ Rd H a (.tup vs)) ∧ PVs r F vs xs
theorem seq_L {α : Type} {r : Rep α} {xs : List α} : SeqP fr Θ (iz (zL r) xs) r xs := fun F H v ok ⟨a, vs, h1, h2, h3⟩ => ⟨a, vs, h1, .inl (.inl (ok.fh _ _ h2)), h3⟩
theorem seq_T {α : Type} [TNar α] {r : Rep α} {xs : List α} : SeqP fr Θ (iz (zT r) xs) r xs := fun F H v ok ⟨a, vs, h1, h2, h3⟩ => ⟨a, vs, h1, .inr (h2.mono ok.fh).rd, h3⟩
theorem sq_or {Kf : PySem.W.Frag} {a : Addr} {vs : List V} (h : Rd H a (.lst vs) ∨ Rd H a (.tup vs)) : SqL Kf H a vs ∨ SqT Kf H a vs := h.elim (fun h => .inl (.inl h)) fun h => .inr (.inl h)
theorem ops_inS {Kf : PySem.W.Frag} {p : Vp} {z : Str} {xs : List Str} (h : SeqP fr Θ p zS xs) (k : K (iz zB (decide (z ∈ xs))) Θ) : Ops fr Θ (rIn Kf false) (iz zS z) p K := fun F H v w ok hv hw Q q => by
  obtain ⟨hv, _⟩ := hv
  obtain ⟨a, vs, rfl, h2, h3⟩ := h F H w ok hw
  obtain ⟨rfl, _⟩ := pvs_S h3
  subst hv
  refine ⟨a, _, rfl, sq_or h2, rfl, flat_strsB _, ?_⟩
  rw [inV_strs]
  exact q.go k ok rfl
theorem ops_ninS {Kf : PySem.W.Frag} {p : Vp} {z : Str} {xs : List Str} (h : SeqP fr Θ p zS xs) (k : K (iz zB (!decide (z ∈ xs))) Θ) : Ops fr Θ (rIn Kf true) (iz zS z) p K := fun F H v w ok hv hw Q q => by
  obtain ⟨hv, _⟩ := hv
  obtain ⟨a, vs, rfl, h2, h3⟩ := h F H w ok hw
  obtain ⟨rfl, _⟩ := pvs_S h3
  subst hv
  refine ⟨a, _, rfl, sq_or h2, rfl, flat_strsB _, ?_⟩
  rw [inV_strs]
  exact q.go k ok rfl
theorem ops_inI {Kf : PySem.W.Frag} {p : Vp} {z : Int} {xs : List Int} (h : SeqP fr Θ p zI xs) (k : K (iz zB (decide (z ∈ xs))) Θ) : Ops fr Θ (rIn Kf false) (iz zI z) p K := fun F H v w ok hv hw Q q => by
  have hv : v = .int z := hv
  obtain ⟨a, vs, rfl, h2, h3⟩ := h F H w ok hw
  have := pvs_I h3
  subst hv this
  refine ⟨a, _, rfl, sq_or h2, rfl, flat_intsG _, ?_⟩
  rw [inV_ints]
  exact q.go k ok rfl
theorem pvs_at {α : Type} {r : Rep α} {vs : List V} {xs : List α} {n : Int} {x : α} (h : PVs r F vs xs) (e : atI xs n = some x) : ∃ v, atI vs n = some v ∧ r.p F v x := by
  unfold atI at e ⊢
  rw [Paired.len h]
  cases q : ixN xs.length n with
  | none =>
    rw [q] at e
    cases e
  | some j =>
    rw [q] at e
    exact Paired.get' h e
theorem ops_ixL {Kf : PySem.W.Frag} {α : Type} {r : Rep α} {xs : List α} {n : Int} {x : α} (e : atI xs n = some x) (k : K (iz r x) Θ) : Ops fr Θ (rIxL Kf) (iz (zL r) xs) (iz zI n) K := fun F H v w ok hv hw Q q => by
  obtain ⟨a, vs, rfl, h2, h3⟩ := hv
  obtain ⟨u, h4, h5⟩ := pvs_at h3 e
  exact ⟨a, vs, n, u, rfl, hw, SqL.of (ok.fh _ _ h2), h4, q.go k ok h5⟩
/-- x[0], x[1] of a pair; x[0], x[1], x[2] of a triple -/
theorem ops_ix20 {Kf : PySem.W.Frag} {α β : Type} {r : Rep α} {s : Rep β} {x : α × β} (k : K (iz r x.1) Θ) : Ops fr Θ (rIxT Kf) (iz (z2 r s) x) (iz zI 0) K := fun F H v w ok hv hw Q q => by
  obtain ⟨a, u, z, rfl, h2, h3, h4⟩ := hv
  exact ⟨a, _, 0, u, rfl, hw, SqT.of (ok.fh _ _ h2), rfl, q.go k ok h3⟩
theorem ops_ix21 {Kf : PySem.W.Frag} {α β : Type} {r : Rep α} {s : Rep β} {x : α × β} (k : K (iz s x.2) Θ) : Ops fr Θ (rIxT Kf) (iz (z2 r s) x) (iz zI 1) K := fun F H v w ok hv hw Q q => by
  obtain ⟨a, u, z, rfl, h2, h3, h4⟩ := hv
  exact ⟨a, _, 1, z, rfl, hw, SqT.of (ok.fh _ _ h2), rfl, q.go k ok h4⟩
theorem ops_ix30 {Kf : PySem.W.Frag} {α β γ : Type} {r : Rep α} {s : Rep β} {t : Rep γ} {x : α × β × γ} (k : K (iz r x.1) Θ) : Ops fr Θ (rIxT Kf) (iz (z3 r s t) x) (iz zI 0) K := fun F H v w ok hv hw Q q => by
  obtain ⟨a, u, z, y, rfl, h2, h3, h4, h5⟩ := hv
  exact ⟨a, _, 0, u, rfl, hw, SqT.of (ok.fh _ _ h2), rfl, q.go k ok h3⟩
theorem ops_ix31 {Kf : PySem.W.Frag} {α β γ : Type} {r : Rep α} {s : Rep β} {t : Rep γ} {x : α × β × γ} (k : K (iz s x.2.1) Θ) : Ops fr Θ (rIxT Kf) (iz (z3 r s t) x) (iz zI 1) K := fun F H v w ok hv hw Q q => by
  obtain ⟨a, u, z, y, rfl, h2, h3, h4, h5⟩ := hv
  exact ⟨a, _, 1, z, rfl, hw, SqT.of (ok.fh _ _ h2), rfl, q.go k ok h4⟩
theorem ops_ix32 {Kf : PySem.W.Frag} {α β γ : Type} {r : Rep α} {s : Rep β} {t : Rep γ} {x : α × β × γ} (k : K (iz t x.2.2) Θ) : Ops fr Θ (rIxT Kf) (iz (z3 r s t) x) (iz zI 2) K := fun F H v w ok hv hw Q q => by
  obtain ⟨a, u, z, y, rfl, h2, h3, h4, h5⟩ := hv
  exact ⟨a, _, 2, y, rfl, hw, SqT.of (ok.fh _ _ h2), rfl, q.go k ok h5⟩
theorem ops_ixS {z : Str} {n : Int} {c : Nat} (hl : z.length ≤ sizeLine) (e : atI z.cps.toList n = some c) (k : K (iz zS ⟨#[c]⟩) Θ) : Ops fr Θ rIxS (iz zS z) (iz zI n) K := fun F H v w ok hv hw Q q => by
  obtain ⟨hv, ha⟩ := hv
  refine ⟨z, n, c, hv, hw, hl, e, q.go k ok ⟨rfl, Asc.one (ha c ?_)⟩⟩
  unfold atI at e
  cases j : ixN z.cps.toList.length n with
  | none => rw [j] at e; cases e
  | some j' =>
    rw [j] at e
    exact List.mem_of_getElem? e
def TupR (ps : List Vp) (q : Vp) : Prop := ∀ F a vs, F a = some (HO.tup vs) → Paired (fun (p : Vp) v => p.p F v) ps vs → q.p F (.ref a)
theorem small_len {α β : Type} {R : α → β → Prop} {l : List α} {m : List β} (h : Paired R l m) (hl : l.length ≤ 1000) : m.length ≤ sizeLine := by
  rw [← Paired.len h]
  exact Nat.le_of_lt (small1000 hl)
theorem ps_mono {ps : List Vp} {vs : List V} (e : Same F F') (h : Paired (fun (p : Vp) v => p.p F v) ps vs) : Paired (fun (p : Vp) v => p.p F' v) ps vs := Paired.imp2 (fun p _ h => p.mono e h) h
theorem we_tup {t : TA} (w : Wa fr Γ Θ t fun ps Θ1 => ps.length ≤ 1000 ∧ ∃ q, TupR ps q ∧ K q Θ1) : We fr Γ Θ (tTup t) K := fun σ F H ok env Q q =>
  w σ F H ok env _ fun ps Θ1 ⟨hl, p, tr, k⟩ vs F1 H1 s1 ok1 hps => ⟨small_len hps hl, fun a na => (q.mono s1).new k ok1 na (tr _ a vs upd_same (ps_mono (ok1.sameF na) hps))⟩
theorem tr2 {α β : Type} {r : Rep α} {s : Rep β} {x : α} {y : β} : TupR [iz r x, iz s y] (iz (z2 r s) (x, y)) := fun F a vs h hp => by
  cases hp with
  | cons h1 hp => cases hp with
    | cons h2 hp => cases hp with
      | nil => exact ⟨a, _, _, rfl, h, h1, h2⟩
theorem pvs_map {α : Type} {r : Rep α} {vs : List V} : ∀ {xs : List α}, Paired (fun (p : Vp) v => p.p F v) (xs.map (iz r)) vs → PVs r F vs xs := fun {xs} h => by
  induction xs generalizing vs with
  | nil => cases h; exact .nil
  | cons x xs ih => cases h with
    | cons a b => exact .cons a (ih b)
/-- a list, frozen -/
theorem we_lst {α : Type} {r : Rep α} {t : TA} (w : Wa fr Γ Θ t fun ps Θ1 => ∃ xs : List α, ps = xs.map (iz r) ∧ ps.length ≤ 1000 ∧ K (iz (zL r) xs) Θ1) : We fr Γ Θ (tLst t) K := fun σ F H ok env Q q =>
  w σ F H ok env _ fun ps Θ1 ⟨xs, e, hl, k⟩ vs F1 H1 s1 ok1 hps => ⟨small_len hps hl, fun a na => by
    subst e
    exact (q.mono s1).new k ok1 na ⟨a, vs, rfl, upd_same, pvs_map (ps_mono (ok1.sameF na) hps)⟩⟩
theorem cb_len {Kf : PySem.W.Frag} {α : Type} {r : Rep α} {xs : List α} {p : Vp} (h : SeqP fr Θ p r xs) (k : K (iz zI xs.length) Θ) : Cbs fr Θ (rLenQ Kf) [p] K := fun F H vs ok hps Q q => by
  cases hps with
  | cons h1 hp => cases hp with
    | nil =>
      obtain ⟨a, us, rfl, h2, h3⟩ := h F H _ ok h1
      refine ⟨a, us, rfl, sq_or h2, ?_⟩
      rw [Paired.len h3]
      exact q.go k ok rfl
theorem cb_lenS {z : Str} (hl : z.length ≤ sizeLine) (k : K (iz zI z.length) Θ) : Cbs fr Θ (fun xs H Q => ∃ z, xs = [.str z] ∧ z.length ≤ sizeLine ∧ Q (.int z.length) H) [iz zS z] K := fun F H vs ok hps Q q => by
  cases hps with
  | cons h1 hp => cases hp with
    | nil => exact ⟨z, by rw [h1.1], hl, q.go k ok rfl⟩
theorem cb_list {Kf : PySem.W.Frag} {α : Type} {r : Rep α} {xs : List α} {p : Vp} (h : SeqP fr Θ p r xs) (k : K (iz (zL r) xs) Θ) : Cbs fr Θ (rListQ Kf) [p] K := fun F H vs ok hps Q q => by
  cases hps with
  | cons h1 hp => cases hp with
    | nil =>
      obtain ⟨a, us, rfl, h2, h3⟩ := h F H _ ok h1
      exact ⟨a, us, rfl, sq_or h2, fun l nl => q.new k ok nl ⟨l, us, rfl, upd_same, Paired.imp2 (fun _ _ h => r.mono (ok.sameF nl) h) h3⟩⟩
theorem cb_tuple {Kf : PySem.W.Frag} {α : Type} [TNar α] {r : Rep α} {xs : List α} {p : Vp} (h : ∀ F H v, OkF fr Θ F H → p.p F v → ∃ a vs, v = .ref a ∧ (H a = some (.lst vs) ∨ TupB (TNar.nar xs) F a vs) ∧ PVs r F vs xs) (k : K (iz (zT r) xs) Θ) : Cbs fr Θ (rTupQ Kf) [p] K := fun F H vs ok hps Q q => by
  cases hps with
  | cons h1 hp => cases hp with
    | nil =>
      obtain ⟨a, us, rfl, h2, h3⟩ := h F H _ ok h1
      refine ⟨a, us, rfl, ?_⟩
      rcases h2 with h2 | h2
      · exact .inl ⟨SqL.of h2, fun l nl => q.new k ok nl ⟨l, us, rfl, .inl upd_same, Paired.imp2 (fun _ _ h => r.mono (ok.sameF nl) h) h3⟩⟩
      · exact .inr ⟨h2.sq ok.fh, q.go k ok ⟨a, us, rfl, h2, h3⟩⟩
theorem cb_tupleL {Kf : PySem.W.Frag} {α : Type} [TNar α] {r : Rep α} {xs : List α} (k : K (iz (zT r) xs) Θ) : Cbs fr Θ (rTupQ Kf) [iz (zL r) xs] K := cb_tuple (fun F H v ok ⟨a, vs, h1, h2, h3⟩ => ⟨a, vs, h1, .inl (ok.fh _ _ h2), h3⟩) k
theorem cb_tupleT {Kf : PySem.W.Frag} {α : Type} [TNar α] {r : Rep α} {xs : List α} (k : K (iz (zT r) xs) Θ) : Cbs fr Θ (rTupQ Kf) [iz (zT r) xs] K := cb_tuple (fun F H v ok ⟨a, vs, h1, h2, h3⟩ => ⟨a, vs, h1, .inr h2, h3⟩) k
theorem cb_any {Kf : PySem.W.Frag} {xs : List Bool} (k : K (iz zB (xs.any id)) Θ) : Cbs fr Θ (rAny Kf) [iz (zL zB) xs] K := fun F H vs ok hps Q q => by
  cases hps with
  | cons h1 hp => cases hp with
    | nil =>
      obtain ⟨a, us, rfl, h2, h3⟩ := h1
      have := pvs_B h3
      subst this
      exact ⟨a, xs, rfl, SqL.of (ok.fh _ _ h2), q.go k ok rfl⟩
theorem cb_all {Kf : PySem.W.Frag} {xs : List Bool} (k : K (iz zB (xs.all id)) Θ) : Cbs fr Θ (rAll Kf) [iz (zL zB) xs] K := fun F H vs ok hps Q q => by
  cases hps with
  | cons h1 hp => cases hp with
    | nil =>
      obtain ⟨a, us, rfl, h2, h3⟩ := h1
      have := pvs_B h3
      subst this
      exact ⟨a, xs, rfl, SqL.of (ok.fh _ _ h2), q.go k ok rfl⟩
theorem cb_sum {Kf : PySem.W.Frag} {xs : List Int} (k : K (iz zI xs.sum) Θ) : Cbs fr Θ (rSum Kf) [iz (zL zI) xs] K := fun F H vs ok hps Q q => by
  cases hps with
  | cons h1 hp => cases hp with
    | nil =>
      obtain ⟨a, us, rfl, h2, h3⟩ := h1
      have := pvs_I h3
      subst this
      exact ⟨a, xs, rfl, SqL.of (ok.fh _ _ h2), q.go k ok rfl⟩
theorem cb_int {n : Int} (k : K (iz zI n) Θ) : Cbs fr Θ (fun xs H Q => (∃ i, xs = [.int i] ∧ Q (.int i) H) ∨ ∃ k, xs = [.bl k] ∧ Q (.int (if k then 1 else 0)) H) [iz zI n] K := fun F H vs ok hps Q q => by
  cases hps with
  | cons h1 hp => cases hp with
    | nil =>
      have h1 : _ = V.int n := h1
      subst h1
      exact .inl ⟨n, rfl, q.go k ok rfl⟩
theorem cb_abs {n : Int} (k : K (iz zI (if n < 0 then -n else n)) Θ) : Cbs fr Θ (fun xs H Q => ∃ i, xs = [.int i] ∧ Q (.int (if i < 0 then -i else i)) H) [iz zI n] K := fun F H vs ok hps Q q => by
  cases hps with
  | cons h1 hp => cases hp with
    | nil =>
      have h1 : _ = V.int n := h1
      subst h1
      exact ⟨n, rfl, q.go k ok rfl⟩
def cutX {α : Type} (xs : List α) (lo hi : Option Int) : List α := (xs.drop (HT.sIx xs.length 0 lo)).take (HT.sIx xs.length xs.length hi - HT.sIx xs.length 0 lo)
theorem pvs_cut {α : Type} {r : Rep α} {vs : List V} {xs : List α} {lo hi : Option Int} (h : PVs r F vs xs) : PVs r F (cutV vs lo hi) (cutX xs lo hi) := by
  unfold cutV cutX
  rw [Paired.len h]
  exact Paired.take _ (Paired.drop _ h)
theorem sls_L {Kf : PySem.W.Frag} {α : Type} {r : Rep α} {xs : List α} {lo hi : Option Int} (k : K (iz (zL r) (cutX xs lo hi)) Θ) : Sls fr Θ (rSlL Kf) (iz (zL r) xs) lo hi K := fun F H v ok hv Q q => by
  obtain ⟨a, vs, rfl, h2, h3⟩ := hv
  exact ⟨a, vs, rfl, SqL.of (ok.fh _ _ h2), fun l nl => q.new k ok nl ⟨l, _, rfl, upd_same, Paired.imp2 (fun _ _ h => r.mono (ok.sameF nl) h) (pvs_cut h3)⟩⟩
theorem ops_cat {α : Type} {r : Rep α} {xs ys : List α} (hl : xs.length + ys.length ≤ sizeLine) (k : K (iz (zL r) (xs ++ ys)) Θ) : Ops fr Θ rCat (iz (zL r) xs) (iz (zL r) ys) K := fun F H v w ok hv hw Q q => by
  obtain ⟨a, vs, rfl, h2, h3⟩ := hv
  obtain ⟨b, us, rfl, h4, h5⟩ := hw
  exact ⟨a, b, vs, us, rfl, rfl, ok.fh _ _ h2, ok.fh _ _ h4, by rw [Paired.len h3, Paired.len h5]; exact hl, fun l nl => q.new k ok nl ⟨l, _, rfl, upd_same, Paired.imp2 (fun _ _ h => r.mono (ok.sameF nl) h) (Paired.app h3 h5)⟩⟩
def Newer (F H F' : Hp) : Prop := ∀ a o, F' a = some o → Nwr F H a o
theorem Newer.refl (F H : Hp) : Newer F H F := fun _ o h => .inl ⟨o, h⟩
/-- the iterator J gives the things its, as long as F stands -/
def JOk (J : It) (F : Hp) (its : List Vp) : Prop := ∀ F1 H1, Same F F1 → Same F1 H1 → (∀ i p, its[i]? = some p → J.go i H1 ∧ ∀ x H2, J.yld i H1 x H2 → ∃ F2, Same F1 F2 ∧ Same H1 H2 ∧ Same F2 H2 ∧ Newer F1 H1 F2 ∧ p.p F2 x) ∧ J.stop its.length H1
def Wi (fr : Fr) (Γ : Gam) (Θ : List Cel) (wi : TI) (K : List Vp → List Cel → Prop) : Prop := ∀ σ F H, OkF fr Θ F H → EnvF Γ σ F → ∀ R : It → Hp → Prop, (∀ its Θ', K its Θ' → ∀ J F' H', Same F F' → OkF fr Θ' F' H' → JOk J F' its → R J H') → wi σ H R
theorem get_izs {α : Type} {r : Rep α} {xs : List α} {i : Nat} {p : Vp} (h : (xs.map (iz r))[i]? = some p) : ∃ x, xs[i]? = some x ∧ p = iz r x := by
  rw [List.getElem?_map] at h
  obtain ⟨x, hx, e⟩ := Option.map_eq_some_iff.mp h
  exact ⟨x, hx, e.symm⟩
theorem wi_list {Kf : PySem.W.Frag} {tl : TE} {K : List Vp → List Cel → Prop} (w : We fr Γ Θ tl fun p Θ1 => ∃ (α : Type) (r : Rep α) (xs : List α), p = iz (zL r) xs ∧ K (xs.map (iz r)) Θ1) : Wi fr Γ Θ (iList Kf tl) K := fun σ F H ok env R q =>
  w σ F H ok env _ fun p Θ1 ⟨α, r, xs, e, k⟩ v F1 H1 s1 ok1 hp => by
    subst e
    obtain ⟨a, vs, rfl, h2, h3⟩ := hp
    refine ⟨a, rfl, ⟨_, SqL.of (ok1.fh _ _ h2)⟩, q _ Θ1 k _ F1 H1 s1 ok1 fun F2 H2 s2 fh => ⟨fun i p hi => ?_, ?_⟩⟩
    · obtain ⟨x, hx, rfl⟩ := get_izs hi
      obtain ⟨u, hu, hux⟩ := Paired.get' h3 hx
      have sq : SqL Kf H2 a vs := SqL.of (fh _ _ (s2 _ _ h2))
      refine ⟨⟨vs, u, sq, hu⟩, fun y H3 ⟨e, hy⟩ => ?_⟩
      subst e
      have hy := hy vs sq
      rw [hu] at hy
      cases hy
      exact ⟨F2, Same.refl _, Same.refl _, fh, Newer.refl _ _, r.mono s2 hux⟩
    · rw [List.length_map, ← Paired.len h3]
      exact ⟨vs, SqL.of (fh _ _ (s2 _ _ h2)), Nat.le_refl _⟩
theorem wi_tup {Kf : PySem.W.Frag} {tl : TE} {K : List Vp → List Cel → Prop} (w : We fr Γ Θ tl fun p Θ1 => ∃ (α : Type) (_ : TNar α) (r : Rep α) (xs : List α), p = iz (zT r) xs ∧ K (xs.map (iz r)) Θ1) : Wi fr Γ Θ (iTup Kf tl) K := fun σ F H ok env R q =>
  w σ F H ok env _ fun p Θ1 ⟨α, _, r, xs, e, k⟩ v F1 H1 s1 ok1 hp => by
    subst e
    obtain ⟨a, vs, rfl, h2, h3⟩ := hp
    refine ⟨a, rfl, ⟨_, h2.sq ok1.fh⟩, q _ Θ1 k _ F1 H1 s1 ok1 fun F2 H2 s2 fh => ⟨fun i p hi => ?_, ?_⟩⟩
    · obtain ⟨x, hx, rfl⟩ := get_izs hi
      obtain ⟨u, hu, hux⟩ := Paired.get' h3 hx
      have sq : SqT Kf H2 a vs := (h2.mono s2).sq fh
      refine ⟨⟨vs, u, sq, hu⟩, fun y H3 ⟨e, hy⟩ => ?_⟩
      subst e
      have hy := hy vs sq
      rw [hu] at hy
      cases hy
      exact ⟨F2, Same.refl _, Same.refl _, fh, Newer.refl _ _, r.mono s2 hux⟩
    · rw [List.length_map, ← Paired.len h3]
      exact ⟨vs, (h2.mono s2).sq fh, Nat.le_refl _⟩
def intsF (lo : Int) (n : Nat) : List Int := (List.range n).map fun i : Nat => lo + (i : Int)
theorem intsF_get {lo : Int} {n i : Nat} {x : Int} (h : (intsF lo n)[i]? = some x) : i < n ∧ x = lo + i := by
  unfold intsF at h
  rw [List.getElem?_map] at h
  obtain ⟨j, hj, e⟩ := Option.map_eq_some_iff.mp h
  rcases Nat.lt_or_ge i n with h | h
  · rw [List.getElem?_range h] at hj
    cases hj
    exact ⟨h, e.symm⟩
  · rw [List.getElem?_eq_none (by rw [List.length_range]; exact h)] at hj
    cases hj
theorem intsF_len (lo : Int) (n : Nat) : (intsF lo n).length = n := by
  unfold intsF
  rw [List.length_map, List.length_range]
theorem jok_r (lo : Int) (n : Nat) : JOk (Itr lo n) F ((intsF lo n).map (iz zI)) := fun F2 H2 s2 fh => ⟨fun i p hi => by
    obtain ⟨x, hx, rfl⟩ := get_izs hi
    obtain ⟨h1, rfl⟩ := intsF_get hx
    exact ⟨h1, fun y H3 ⟨e, hy⟩ => by
      subst e
      exact ⟨F2, Same.refl _, Same.refl _, fh, Newer.refl _ _, hy⟩⟩, by
    rw [List.length_map, intsF_len]
    exact Nat.le_refl _⟩
theorem wi_range {ta : TA} {K : List Vp → List Cel → Prop} (w : Wa fr Γ Θ ta fun ps Θ1 => ∃ n : Int, ps = [iz zI n] ∧ -(2 ^ 62) ≤ n ∧ n < 2 ^ 62 ∧ K ((intsF 0 n.toNat).map (iz zI)) Θ1) : Wi fr Γ Θ (iRng1 ta) K := fun σ F H ok env R q =>
  w σ F H ok env _ fun ps Θ1 ⟨n, e, b1, b2, k⟩ vs F1 H1 s1 ok1 hps => by
    subst e
    cases hps with
    | cons h1 hp => cases hp with
      | nil =>
        have h1 : _ = V.int n := h1
        subst h1
        exact ⟨n, rfl, b1, b2, q _ Θ1 k _ F1 H1 s1 ok1 (jok_r 0 n.toNat)⟩
theorem wi_range2 {ta : TA} {K : List Vp → List Cel → Prop} (w : Wa fr Γ Θ ta fun ps Θ1 => ∃ m n : Int, ps = [iz zI m, iz zI n] ∧ (-(2 ^ 62) ≤ m ∧ m < 2 ^ 62 ∧ -(2 ^ 62) ≤ n ∧ n < 2 ^ 62) ∧ K ((intsF m (n - m).toNat).map (iz zI)) Θ1) : Wi fr Γ Θ (iRng2 ta) K := fun σ F H ok env R q =>
  w σ F H ok env _ fun ps Θ1 ⟨m, n, e, b, k⟩ vs F1 H1 s1 ok1 hps => by
    subst e
    cases hps with
    | cons h1 hp => cases hp with
      | cons h2 hp => cases hp with
        | nil =>
          have h1 : _ = V.int m := h1
          have h2 : _ = V.int n := h2
          subst h1 h2
          exact ⟨m, n, rfl, b, q _ Θ1 k _ F1 H1 s1 ok1 (jok_r m _)⟩
/-- a finer start: more is frozen -/
structure FrLe (fr fr' : Fr) : Prop where
  h : fr'.H0 = fr.H0
  b : fr'.B = fr.B
  f : Same fr.F0 fr'.F0
  n : ∀ a o, fr'.F0 a = some o → Nwr fr.F0 fr.H0 a o
theorem OkF.le {fr' : Fr} (ok : OkF fr' Θ F H) (l : FrLe fr fr') : OkF fr Θ F H := by
  obtain ⟨a1, a2, a3, a4⟩ := l
  refine ⟨ok.fh, a3.trans ok.f0, fun a o h => ?_, fun a o hB h => ok.h0 a o (by rw [a2]; exact hB) (by rw [a1]; exact h), fun a o h => ok.al a o (by rw [a1]; exact h), ok.nd, fun c hc => ?_⟩
  · rcases ok.nw a o h with ⟨o', h'⟩ | h' | h'
    · have e := ok.f0 a o' h'
      rw [h] at e
      cases e
      exact a4 a o h'
    · exact .inr (.inl (by rw [a1] at h'; exact h'))
    · exact .inr (.inr h')
  · have := ok.ce c hc
    rw [a1, a2] at this
    exact this
theorem OkF.fine {F1 H1 : Hp} {Θ1 : List Cel} (ok1 : OkF fr Θ1 F1 H1) : FrLe fr ⟨F1, fr.H0, fr.B⟩ := ⟨rfl, rfl, ok1.f0, ok1.nw⟩
theorem FrLe.trans {fr1 fr2 : Fr} (x : FrLe fr fr1) (y : FrLe fr1 fr2) : FrLe fr fr2 := ⟨y.h.trans x.h, y.b.trans x.b, x.f.trans y.f, fun a o h => (y.n a o h).elim (fun ⟨o', h'⟩ => by
  have e := y.f a o' h'
  rw [h] at e
  cases e
  exact x.n a o h') fun h' => h'.elim (fun h' => .inr (.inl (by rw [x.h] at h'; exact h'))) fun h' => .inr (.inr h')⟩
theorem Kn.fine {fr' : Fr} {P : L2.St → Hp → Prop} (k : Kn fr Γ Θ P) (l : FrLe fr fr') : Kn fr' Γ Θ P := fun σ F H ok env => k σ F H (ok.le l) env
theorem Rt.fine {fr' : Fr} {rt : VK} {p : Vp} (k : Rt fr Θ rt p) (l : FrLe fr fr') : Rt fr' Θ rt p := fun v F H ok h => k v F H (ok.le l) h
theorem kn_for {wi : TI} {g : TG} {tb : TS} {D : Ends} (w : Wi fr Γ Θ wi fun its Θ1 => ∃ I : Nat → Gam → List Cel → Prop, (∃ Γ0, GLe Γ Γ0 ∧ I 0 Γ0 Θ1) ∧
    (∀ fr', FrLe fr fr' → ∀ i p Γ1 Θ2, its[i]? = some p → I i Γ1 Θ2 → ∃ vs Γ2, TgR g vs p Γ1 Γ2 ∧ Kn fr' Γ2 Θ2 (tb { D with nx := Mid fr' (I (i + 1)), ct := Mid fr' (I (i + 1)), bk := D.nx })) ∧ ∀ Γ1 Θ2, I its.length Γ1 Θ2 → Kn fr Γ1 Θ2 D.nx) : Kn fr Γ Θ (tFor wi g tb D) := fun σ F H ok env =>
  w σ F H ok env _ fun its Θ1 ⟨I, ⟨Γ0, l0, i0⟩, hs, hd⟩ J F1 H1 s1 ok1 jok => by
    have le := ok1.fine
    have up : ∀ {Θ2 : List Cel} {F2 H2 : Hp}, OkF fr Θ2 F2 H2 → Same F1 F2 → OkF ⟨F1, fr.H0, fr.B⟩ Θ2 F2 H2 := fun ok s => ⟨ok.fh, s, fun a o h => (ok.nw a o h).elim (fun ⟨o', h'⟩ => .inl ⟨o', ok1.f0 _ _ h'⟩) .inr, ok.h0, ok.al, ok.nd, ok.ce⟩
    refine ⟨fun i m σ' H' => m = its.length - i ∧ i ≤ its.length ∧ Mid ⟨F1, fr.H0, fr.B⟩ (I i) σ' H', ⟨its.length, by simp, Nat.zero_le _, Γ0, Θ1, F1, i0, up ok1 (Same.refl _), (env.mono s1).le l0⟩, ?_⟩
    rintro i m σ' H' ⟨rfl, hi, Γ2, Θ2, F2, hI, ok2, env2⟩
    obtain ⟨j1, j2⟩ := jok F2 H' ok2.f0 ok2.fh
    by_cases hlt : i < its.length
    · obtain ⟨jg, jy⟩ := j1 i its[i] (List.getElem?_eq_getElem hlt)
      refine .inr ⟨jg, Mid ⟨F1, fr.H0, fr.B⟩ (I (i + 1)), fun σ3 H3 p => ⟨its.length - (i + 1), by omega, rfl, hlt, p⟩, fun x H3 y => ?_⟩
      obtain ⟨F3, e1, e2, e3, e4, e5⟩ := jy x H3 y
      have ok3 := ok2.grow e2 e1 e3 e4
      obtain ⟨vs, Γ4, tg, kn⟩ := hs _ le i _ Γ2 Θ2 (List.getElem?_eq_getElem hlt) hI
      exact tg σ' F3 H3 x ok3.fh (env2.mono e1) e5 _ fun σ4 env4 _ => kn σ4 F3 H3 ok3 env4
    · have e : i = its.length := by omega
      subst e
      exact .inl ⟨j2, hd Γ2 Θ2 hI σ' F2 H' (ok2.le le) env2⟩
def wipeG (Γ : Gam) : List Nat → Gam
  | [] => Γ
  | v :: vs => (wipeG Γ vs).set v none
theorem EnvF.wipe {σ : L2.St} (h : EnvF Γ σ F) : ∀ vs, EnvF (wipeG Γ vs) (L2.wipe σ vs) F
  | [] => h
  | v :: vs => (EnvF.wipe h vs).drop
theorem wipe_get (σ : L2.St) (j : Nat) : ∀ vs : List Nat, (L2.wipe σ vs)[j]? = if j ∈ vs ∧ j < σ.length then some none else σ[j]?
  | [] => by simp [L2.wipe]
  | v :: vs => by
    unfold L2.wipe
    rw [List.getElem?_set, wipe_get σ j vs, wipe_length]
    by_cases h : v = j
    · subst h
      by_cases h2 : v < σ.length
      · rw [if_pos rfl, if_pos h2, if_pos ⟨List.mem_cons_self .., h2⟩]
      · rw [if_pos rfl, if_neg h2, if_neg (fun q => h2 q.2), List.getElem?_eq_none (by omega)]
    · rw [if_neg h]
      by_cases h2 : j ∈ vs ∧ j < σ.length
      · rw [if_pos h2, if_pos ⟨List.mem_cons_of_mem _ h2.1, h2.2⟩]
      · rw [if_neg h2, if_neg (fun q => h2 ⟨(List.mem_cons.mp q.1).resolve_left (fun e => h e.symm), q.2⟩)]
theorem wipe_idem (σ : L2.St) (vs : List Nat) : L2.wipe (L2.wipe σ vs) vs = L2.wipe σ vs := by
  apply List.ext_getElem?
  intro j
  rw [wipe_get, wipe_length, wipe_get]
  split <;> rfl
theorem wt_yes {K : Bool → List Cel → Prop} (k : K true Θ) : Wt fr Γ Θ tYes K := fun σ F H ok env Q q => q true Θ k F H (Same.refl F) ok
end
end L2
set_option Elab.async false
set_option linter.all false
set_option maxRecDepth 100000
set_option maxHeartbeats 4000000
namespace L2
open PySem PySem.Spec PyProof.Rows PySem.HErr
/-- an error: its class, its fields -/
structure Er where
  C : Addr
  fs : List (Str × Vp)
def FsOk (F : Hp) (fs : List (Str × Vp)) (us : List (Str × V)) : Prop := Paired (fun (x : Str × Vp) (y : Str × V) => x.1 = y.1 ∧ x.2.p F y.2) fs us
theorem FsOk.mono {F F' : Hp} {fs : List (Str × Vp)} {us : List (Str × V)} (h : FsOk F fs us) (e : Same F F') : FsOk F' fs us := Paired.imp2 (fun x _ ⟨h1, h2⟩ => ⟨h1, x.2.mono e h2⟩) h
theorem FsOk.look {F : Hp} {f : Str} {p : Vp} : ∀ {fs : List (Str × Vp)} {us : List (Str × V)}, FsOk F fs us → fs.lookup f = some p → ∃ v, us.lookup f = some v ∧ p.p F v
  | _, _, .nil, h => by cases h
  | (a, q) :: fs, (b, u) :: us, .cons ⟨h1, h2⟩ r, h => by
    have h1 : a = b := h1
    subst h1
    rw [List.lookup_cons] at h ⊢
    cases e : (f == a) with
    | true =>
      rw [e] at h
      cases h
      exact ⟨u, rfl, h2⟩
    | false =>
      rw [e] at h
      exact FsOk.look r h
def Kr (fr : Fr) (Γ : Gam) (Θ : List Cel) (W : WX) (e : Er) : Prop := ∀ σ F H, OkF fr Θ F H → EnvF Γ σ F → ∀ d us, F d = some (.xd us) → FsOk F e.fs us → W (.ref e.C) (some d) σ H
/-- what a def raises -/
def Rse (fr : Fr) (E : XK) (err : Er → Prop) : Prop := ∀ e, err e → ∀ Θ F H d us, OkF fr Θ F H → F d = some (.xd us) → FsOk F e.fs us → E (.ref e.C) (some d) H
/-- what a def returns -/
def Ret (fr : Fr) (Q : VK) (out : Vp → Prop) : Prop := ∀ p, out p → ∀ Θ, Rt fr Θ Q p
def Sps (fr : Fr) (Γ : Gam) (Θ : List Cel) (sp : Sp) (E : L2.St → XK) (ps : List Vp) (K : Vp → List Cel → Prop) : Prop := ∀ σ F H vs, OkF fr Θ F H → EnvF Γ σ F → Paired (fun (p : Vp) v => p.p F v) ps vs → ∀ Q, Kq fr F K Q → sp vs H Q (E σ)
section
variable {fr : Fr} {Γ Γ' : Gam} {Θ : List Cel} {F F' H H' : Hp} {K : Vp → List Cel → Prop} {Q : VK}
theorem Rse.fine {fr' : Fr} {E : XK} {err : Er → Prop} (h : Rse fr E err) (l : FrLe fr fr') : Rse fr' E err := fun e he Θ F H d us ok => h e he Θ F H d us (ok.le l)
theorem Ret.fine {fr' : Fr} {out : Vp → Prop} (h : Ret fr Q out) (l : FrLe fr fr') : Ret fr' Q out := fun p hp Θ => (h p hp Θ).fine l
theorem we_callE {sp : Sp} {E : XK} {t : TA} (w : Wa fr Γ Θ t fun ps Θ1 => Sps fr Γ Θ1 sp (fun _ => E) ps K) : We fr Γ Θ (tCall sp [] E t) K := fun σ F H ok env Q q =>
  w σ F H ok env _ fun ps Θ1 k vs F1 H1 s1 ok1 hps => by
    rw [List.append_nil]
    exact k σ F1 H1 vs ok1 (env.mono s1) hps Q (q.mono s1)
theorem we_callS {sp : Sp} {E : L2.St → XK} {t : TA} (w : Wa fr Γ Θ t fun ps Θ1 => Sps fr Γ Θ1 sp E ps K) : We fr Γ Θ (tCallS sp E t) K := fun σ F H ok env Q q =>
  w σ F H ok env _ fun ps Θ1 k vs F1 H1 s1 ok1 hps => k σ F1 H1 vs ok1 (env.mono s1) hps Q (q.mono s1)
/-- an instance of the class at C, m no field of its own -/
def InsP (fr : Fr) (Θ : List Cel) (p : Vp) (C : Addr) (m : Str) : Prop := ∀ F H v, OkF fr Θ F H → p.p F v → ∃ a dx fs, v = .ref a ∧ H a = some (.ins C dx fs) ∧ fs.lookup m = none
theorem we_met {C : Addr} {m : Str} {sp : Sp} {E : L2.St → XK} {ta : TE} {t : TA} (w : We fr Γ Θ ta fun p Θ1 => InsP fr Θ1 p C m ∧ Wa fr Γ Θ1 t fun ps Θ2 => Sps fr Γ Θ2 sp E (p :: ps) K) : We fr Γ Θ (tMetD C m sp E ta t) K := fun σ F H ok env Q q =>
  w σ F H ok env _ fun p Θ1 ⟨ki, k⟩ v F1 H1 s1 ok1 hp => by
    obtain ⟨a, dx, fs, rfl, h2, h3⟩ := ki F1 H1 v ok1 hp
    exact ⟨a, dx, fs, rfl, h2, h3, k σ F1 H1 ok1 (env.mono s1) _ fun ps Θ2 k2 vs F2 H2 s2 ok2 hps => k2 σ F2 H2 _ ok2 ((env.mono s1).mono s2) (.cons (p.mono s2 hp) hps) Q (q.mono (s1.trans s2))⟩
def Post (F H : Hp) (Q : VK) (out : Vp → Prop) : Prop := ∀ p, out p → ∀ v F' H', Same H H' → Same F F' → Same F' H' → Newer F H F' → p.p F' v → Q v H'
def PErs (F H : Hp) (E : XK) (err : Er → Prop) : Prop := ∀ e, err e → ∀ F' H' d us, Same H H' → Same F F' → Same F' H' → Newer F H F' → F' d = some (.xd us) → FsOk F' e.fs us → E (.ref e.C) (some d) H'
abbrev Pre := List Vp → (Vp → Prop) → (Er → Prop) → Prop
def spA (pre : Pre) : Sp := fun vs H Q E => ∃ F ps out err, Same F H ∧ Paired (fun (p : Vp) v => p.p F v) ps vs ∧ pre ps out err ∧ Post F H Q out ∧ PErs F H E err
theorem sps_A {pre : Pre} {E : L2.St → XK} {ps : List Vp} {out : Vp → Prop} {err : Er → Prop} (hp : pre ps out err) (k : ∀ p, out p → K p Θ) (x : ∀ e, err e → Kr fr Γ Θ (fun cls d σ H => E σ cls d H) e) : Sps fr Γ Θ (spA pre) E ps K := fun σ F H vs ok env hps Q q =>
  ⟨F, ps, out, err, ok.fh, hps, hp, fun p ho v F' H' hh ff fh nw h => q p Θ (k p ho) v F' H' ff (ok.grow hh ff fh nw) h,
    fun e he F' H' d us hh ff fh nw hd hf => x e he σ F' H' (ok.grow hh ff fh nw) (env.mono ff) d us hd hf⟩
/-- nothing is raised -/
def noErr : Er → Prop := fun _ => False
theorem OkF.post (ok : OkF ⟨F, H, []⟩ Θ F' H') : Same H H' ∧ Same F F' ∧ Same F' H' ∧ Newer F H F' := ⟨fun a o h => ok.h0 a o (by simp) h, ok.f0, ok.fh, ok.nw⟩
theorem Post.ret {out : Vp → Prop} (h : Post F H Q out) : Ret ⟨F, H, []⟩ Q out := fun p hp Θ v F' H' ok hv => by
  obtain ⟨a, b, c, d⟩ := ok.post
  exact h p hp v F' H' a b c d hv
theorem PErs.rse {E : XK} {err : Er → Prop} (h : PErs F H E err) : Rse ⟨F, H, []⟩ E err := fun e he Θ F' H' d us ok hd hf => by
  obtain ⟨a, b, c, n⟩ := ok.post
  exact h e he F' H' d us a b c n hd hf
def envOf (N : List Str) (ps : List Vp) : Gam := ps.map some ++ List.replicate (N.length - ps.length) none
theorem env_start {N : List Str} {ps : List Vp} {vs : List V} (h : Paired (fun (p : Vp) v => p.p F v) ps vs) : EnvF (envOf N ps) (start N vs) F := by
  unfold envOf start
  rw [Paired.len h]
  refine Paired.app ?_ ?_
  · induction h with
    | nil => exact .nil
    | cons a _ ih => exact .cons (fun p hp => by cases hp; exact ⟨_, rfl, a⟩) ih
  · have : ∀ n : Nat, Paired (fun (e : Option Vp) (s : Option V) => ∀ p, e = some p → ∃ v, s = some v ∧ p.p F v) (List.replicate n none) (List.replicate n none) := fun n => by
      induction n with
      | zero => exact .nil
      | succ n ih => exact .cons (fun p hp => by cases hp) ih
    exact this _
end
section
variable {P : Program} {w : World} {K : PySem.W.Frag} {mg : Str → Option Value} {base : Heap} {x m qual : Str} {C : Addr} {st : Stmt} {N ps : List Str} {k : Nat} {pre : Pre}
theorem Src.okA (F : Src K mg x st ps) (S : FnScope N ps (defScope st)) (len : ∀ qs out err, pre qs out err → qs.length = ps.length)
    (hbody : ∀ (f : Addr) (cdv : Value) (A : Around) (outer : List Env) (s : Shared) (H : Hp) (E : XK) (qs : List Vp) (out : Vp → Prop) (err : Er → Prop), Room k (A.deeper (envOfC x (defScope st) s.heap.objs.size f cdv)) → pre qs out err →
      ∃ t, PSs (cxOf CX0 P w K mg base N x (defScope st) f cdv A outer s H E).nox (defBody st) t ∧ ∀ fr Q, Ret fr Q out → Kn fr (envOf N qs) [] (t { nx := fun _ H' => Q .non H', rt := Q })) : Def P w K mg base CX0 (k + 1) x ps (spA pre) := by
  refine F.ok S (fun vs H Q E h => ?_) (fun f cdv A outer s H vs Q E hr h => ?_)
  · obtain ⟨F, qs, out, err, _, h2, h3, _⟩ := h
    rw [← Paired.len h2]
    exact len _ _ _ h3
  · obtain ⟨F, qs, out, err, h1, h2, h3, h4, h5⟩ := h
    obtain ⟨t, ht, hk⟩ := hbody f cdv A outer s H E qs out err hr h3
    exact ⟨t, ht, hk _ Q h4.ret _ F H (OkF.start h1) (env_start h2)⟩
theorem Src.okAX (F : Src K mg x st ps) (S : FnScope N ps (defScope st)) (len : ∀ qs out err, pre qs out err → qs.length = ps.length)
    (hbody : ∀ (f : Addr) (cdv : Value) (A : Around) (outer : List Env) (s : Shared) (H : Hp) (E : XK) (qs : List Vp) (out : Vp → Prop) (err : Er → Prop), Room k (A.deeper (envOfC x (defScope st) s.heap.objs.size f cdv)) → pre qs out err →
      ∃ t, PSs (cxOf (L2.CX P w) P w K mg base N x (defScope st) f cdv A outer s H E) (defBody st) t ∧ ∀ fr Q, Ret fr Q out → Rse fr E err → Kn fr (envOf N qs) [] (t { nx := fun _ H' => Q .non H', rt := Q })) : Def P w K mg base (L2.CX P w) (k + 1) x ps (spA pre) := by
  refine F.okX S (fun vs H Q E h => ?_) (fun f cdv A outer s H vs Q E hr h => ?_)
  · obtain ⟨F, qs, out, err, _, h2, h3, _⟩ := h
    rw [← Paired.len h2]
    exact len _ _ _ h3
  · obtain ⟨F, qs, out, err, h1, h2, h3, h4, h5⟩ := h
    obtain ⟨t, ht, hk⟩ := hbody f cdv A outer s H E qs out err hr h3
    exact ⟨t, ht, hk _ Q h4.ret h5.rse _ F H (OkF.start h1) (env_start h2)⟩
theorem SrcM.okA (F : SrcM K C m qual st ps) (S : FnScope N ps (defScope st)) (len : ∀ qs out err, pre qs out err → qs.length = ps.length)
    (hbody : ∀ (f : Addr) (cdv : Value) (A : Around) (outer : List Env) (s : Shared) (H : Hp) (E : XK) (qs : List Vp) (out : Vp → Prop) (err : Er → Prop), Room k (A.deeper (envOfC qual (defScope st) s.heap.objs.size f cdv)) → pre qs out err →
      ∃ t, PSs (cxOf CX0 P w K mg base N qual (defScope st) f cdv A outer s H E).nox (defBody st) t ∧ ∀ fr Q, Ret fr Q out → Kn fr (envOf N qs) [] (t { nx := fun _ H' => Q .non H', rt := Q })) : DefM P w K mg base CX0 (k + 1) C m ps (spA pre) := by
  refine F.ok S (fun vs H Q E h => ?_) (fun f cdv A outer s H vs Q E hr h => ?_)
  · obtain ⟨F, qs, out, err, _, h2, h3, _⟩ := h
    rw [← Paired.len h2]
    exact len _ _ _ h3
  · obtain ⟨F, qs, out, err, h1, h2, h3, h4, h5⟩ := h
    obtain ⟨t, ht, hk⟩ := hbody f cdv A outer s H E qs out err hr h3
    exact ⟨t, ht, hk _ Q h4.ret _ F H (OkF.start h1) (env_start h2)⟩
theorem SrcM.okAX (F : SrcM K C m qual st ps) (S : FnScope N ps (defScope st)) (len : ∀ qs out err, pre qs out err → qs.length = ps.length)
    (hbody : ∀ (f : Addr) (cdv : Value) (A : Around) (outer : List Env) (s : Shared) (H : Hp) (E : XK) (qs : List Vp) (out : Vp → Prop) (err : Er → Prop), Room k (A.deeper (envOfC qual (defScope st) s.heap.objs.size f cdv)) → pre qs out err →
      ∃ t, PSs (cxOf (L2.CX P w) P w K mg base N qual (defScope st) f cdv A outer s H E) (defBody st) t ∧ ∀ fr Q, Ret fr Q out → Rse fr E err → Kn fr (envOf N qs) [] (t { nx := fun _ H' => Q .non H', rt := Q })) : DefM P w K mg base (L2.CX P w) (k + 1) C m ps (spA pre) := by
  refine F.okX S (fun vs H Q E h => ?_) (fun f cdv A outer s H vs Q E hr h => ?_)
  · obtain ⟨F, qs, out, err, _, h2, h3, _⟩ := h
    rw [← Paired.len h2]
    exact len _ _ _ h3
  · obtain ⟨F, qs, out, err, h1, h2, h3, h4, h5⟩ := h
    obtain ⟨t, ht, hk⟩ := hbody f cdv A outer s H E qs out err hr h3
    exact ⟨t, ht, hk _ Q h4.ret h5.rse _ F H (OkF.start h1) (env_start h2)⟩
end
section
variable {fr : Fr} {Γ Γ' : Gam} {Θ : List Cel} {F F' H H' : Hp} {K : Vp → List Cel → Prop} {Q : VK}
theorem kr_E {E : XK} {err : Er → Prop} {e : Er} (h : Rse fr E err) (he : err e) : Kr fr Γ Θ (fun cls d _ H => E cls d H) e := fun σ F H ok env d us hd hf => h e he Θ F H d us ok hd hf
theorem zip_ok {fs : List Str} {ps : List Vp} {vs : List V} (h : Paired (fun (p : Vp) v => p.p F v) ps vs) : ∀ {fs : List Str}, Paired (fun (x : Str × Vp) (y : Str × V) => x.1 = y.1 ∧ x.2.p F y.2) (fs.zip ps) (fs.zip vs) := fun {fs} => by
  induction h generalizing fs with
  | nil => rw [List.zip_nil_right, List.zip_nil_right]; exact .nil
  | cons a _ ih => cases fs with
    | nil => exact .nil
    | cons f fs => exact .cons ⟨rfl, a⟩ ih
theorem Paired.rev {α β : Type} {R : α → β → Prop} {l : List α} {m : List β} (h : Paired R l m) : Paired R l.reverse m.reverse := by
  induction h with
  | nil => exact .nil
  | cons a _ ih => rw [List.reverse_cons, List.reverse_cons]; exact PySem.Paired.snoc ih a
theorem kn_raise {tm : Bool} {C : Addr} {fs : List Str} {W : WX} {ta : TA} {D : Ends} (w : Wa fr Γ Θ ta fun ps Θ1 => ps.length = fs.length ∧ (tm = true → ∃ z r, ps = iz zS z :: r ∧ z.length ≤ 1000) ∧ Kr fr Γ Θ1 W ⟨C, (fs.zip ps).reverse⟩) : Kn fr Γ Θ (tRaiseE tm C fs W ta D) := fun σ F H ok env =>
  w σ F H ok env _ fun ps Θ1 ⟨hl, ht, k⟩ vs F1 H1 s1 ok1 hps => by
    refine ⟨by rw [← Paired.len hps]; exact hl, fun h => ?_, fun d nd => ?_⟩
    · obtain ⟨z, r, e, hz⟩ := ht h
      subst e
      cases hps with
      | cons a b => exact ⟨z, _, by rw [a.1], hz⟩
    · have s2 := ok1.sameF (o := .xd (fs.zip vs).reverse) nd
      exact k σ _ _ (ok1.new nd) ((env.mono s1).mono s2) d _ upd_same (Paired.rev (zip_ok (fs := fs) (ps_mono s2 hps)))
/-- the caught exception at a, its dict at d -/
def zExc (a d : Addr) (fs : List (Str × Vp)) : Vp := ⟨fun F v => v = .ref a ∧ ∃ us, F d = some (.xd us) ∧ FsOk F fs us, fun e ⟨h1, us, h2, h3⟩ => ⟨h1, us, e _ _ h2, h3.mono e⟩⟩
theorem kr_cl {Kf : PySem.W.Frag} {c : Value} {i : Nat} {ts : Addr → Value → Option Addr → TS} {Wout : WX} {D : Ends} {r : List Clause} {e : Er} (hx : PySem.W.exmOne Kf (.ref e.C) c = some true)
    (k : ∀ a d, Kn fr (Γ.set i (some (zExc a d e.fs))) Θ (ts a (.ref e.C) (some d) { nx := fun σ' H' => D.nx (σ'.set i none) H', rt := D.rt, bk := fun σ' H' => D.bk (σ'.set i none) H', ct := fun σ' H' => D.ct (σ'.set i none) H' })) : Kr fr Γ Θ (wClauses Kf Wout D ((c, some i, ts) :: r)) e := fun σ F H ok env d us hd hf =>
  ⟨true, hx, fun _ a ha => k a d _ F H ok (env.set (p := zExc a d e.fs) ⟨rfl, us, hd, hf⟩), fun q => Bool.noConfusion q⟩
theorem kr_clN {Kf : PySem.W.Frag} {c : Value} {o : Option Nat} {ts : Addr → Value → Option Addr → TS} {Wout : WX} {D : Ends} {r : List Clause} {e : Er} (hx : PySem.W.exmOne Kf (.ref e.C) c = some false) (k : Kr fr Γ Θ (wClauses Kf Wout D r) e) : Kr fr Γ Θ (wClauses Kf Wout D ((c, o, ts) :: r)) e := fun σ F H ok env d us hd hf =>
  ⟨false, hx, fun q => Bool.noConfusion q, fun _ => k σ F H ok env d us hd hf⟩
theorem we_xf {a d C : Addr} {f : Str} {te : TE} {fs : List (Str × Vp)} {q : Vp} (w : We fr Γ Θ te fun p Θ1 => p = zExc a d fs ∧ fs.lookup f = some q ∧ K q Θ1) : We fr Γ Θ (tXf a (.ref C) (some d) C f te) K := fun σ F H ok env Q k =>
  w σ F H ok env _ fun p Θ1 ⟨e, hl, kk⟩ v F1 H1 s1 ok1 hp => by
    subst e
    obtain ⟨h1, us, h2, h3⟩ := hp
    obtain ⟨u, h4, h5⟩ := h3.look hl
    exact ⟨h1, rfl, d, us, u, rfl, ok1.fh _ _ h2, h4, k q Θ1 kk u F1 H1 s1 ok1 h5⟩
def FldR (Kf : PySem.W.Frag) (f : Str) (p q : Vp) : Prop := ∀ F v, p.p F v → ∃ a C dx fs u, v = .ref a ∧ F a = some (.ins C dx fs) ∧ Cls Kf C ∧ NoAttr Kf C f ∧ fs.lookup f = some u ∧ q.p F u
/-- the field f of p is q -/
def FldP (fr : Fr) (Θ : List Cel) (Kf : PySem.W.Frag) (f : Str) (p q : Vp) : Prop := ∀ F H v, OkF fr Θ F H → p.p F v → ∃ a C dx fs u, v = .ref a ∧ H a = some (.ins C dx fs) ∧ Cls Kf C ∧ NoAttr Kf C f ∧ fs.lookup f = some u ∧ q.p F u
theorem FldR.p {Kf : PySem.W.Frag} {f : Str} {p q : Vp} (h : FldR Kf f p q) : FldP fr Θ Kf f p q := fun F H v ok hv => by
  obtain ⟨a, C, dx, fs, u, h1, h2, h3, h4, h5, h6⟩ := h F v hv
  exact ⟨a, C, dx, fs, u, h1, ok.fh _ _ h2, h3, h4, h5, h6⟩
theorem we_fld {Kf : PySem.W.Frag} {f : Str} {ta : TE} (w : We fr Γ Θ ta fun p Θ1 => ∃ q, FldP fr Θ1 Kf f p q ∧ K q Θ1) : We fr Γ Θ (tFld Kf ta f) K := fun σ F H ok env Q k =>
  w σ F H ok env _ fun p Θ1 ⟨q, hf, kk⟩ v F1 H1 s1 ok1 hp => by
    obtain ⟨a, C, dx, fs, u, h1, h2, h3, h4, h5, h6⟩ := hf F1 H1 v ok1 hp
    exact ⟨a, C, dx, fs, u, h1, h2, h3, h4, h5, k q Θ1 kk u F1 H1 s1 ok1 h6⟩
class Dat {α : Type} (r : Rep α) where
  enc : α → PyData
  dep : Nat
  dp : ∀ {Kf : PySem.W.Frag} {F : Hp} {v : V} {x : α}, r.p F v x → Dp Kf F v (enc x)
  ok : ∀ {F : Hp} {v : V} {x : α}, r.p F v x → nb (enc x) = true
  dl : ∀ x : α, (enc x).depth ≤ dep
  inj : ∀ {x y : α}, enc x = enc y → x = y
instance : Dat zI := ⟨PyData.int, 0, fun h => by cases (show _ = V.int _ from h); exact .int _, fun _ => rfl, fun _ => by simp [PyData.depth], fun h => PyData.int.inj h⟩
instance : Dat zS := ⟨PyData.str, 0, fun h => by cases h.1; exact .str _, fun h => h.2.ok, fun _ => by simp [PyData.depth], fun h => PyData.str.inj h⟩
theorem map_inj' {α β : Type} {f : α → β} (hf : ∀ x y, f x = f y → x = y) : ∀ {l m : List α}, l.map f = m.map f → l = m
  | [], [], _ => rfl
  | [], _ :: _, h => by cases h
  | _ :: _, [], h => by cases h
  | a :: l, b :: m, h => by
    rw [List.map_cons, List.map_cons, List.cons.injEq] at h
    rw [hf _ _ h.1, map_inj' hf h.2]
theorem dat_all {α : Type} {r : Rep α} [d : Dat r] {Kf : PySem.W.Frag} {vs : List V} {xs : List α} (h : PVs r F vs xs) : DpAll Kf F vs (xs.map d.enc) := by
  induction h with
  | nil => exact .nil
  | cons a _ ih => exact .cons (d.dp a) ih
theorem dat_nb {α : Type} {r : Rep α} [d : Dat r] {vs : List V} {xs : List α} (h : PVs r F vs xs) : nbAll (xs.map d.enc) = true := by
  induction h with
  | nil => rfl
  | cons a _ ih => show (nb _ && nbAll _) = true; rw [d.ok a, ih]; rfl
theorem dat_dep {α : Type} {r : Rep α} [d : Dat r] (xs : List α) : PyData.depthAll (xs.map d.enc) ≤ d.dep := depthAll_le fun y hy => by
  obtain ⟨x, _, rfl⟩ := List.mem_map.mp hy
  exact d.dl x
instance {α : Type} {r : Rep α} [d : Dat r] : Dat (zL r) := ⟨fun xs => .list (xs.map d.enc), d.dep + 1, fun ⟨a, vs, h1, h2, h3⟩ => by subst h1; exact .lst (SqL.of h2) (dat_all h3), fun ⟨a, vs, h1, h2, h3⟩ => dat_nb h3, fun xs => by
  have := dat_dep (r := r) xs
  simp only [PyData.depth]
  omega, fun h => map_inj' (fun _ _ => d.inj) (PyData.list.inj h)⟩
instance {α : Type} [TNar α] {r : Rep α} [d : Dat r] : Dat (zT r) := ⟨fun xs => .tuple (xs.map d.enc), d.dep + 1, fun ⟨a, vs, h1, h2, h3⟩ => by subst h1; exact .tup (h2.sq (Same.refl _)) (dat_all h3), fun ⟨a, vs, h1, h2, h3⟩ => dat_nb h3, fun xs => by
  have := dat_dep (r := r) xs
  simp only [PyData.depth]
  omega, fun h => map_inj' (fun _ _ => d.inj) (PyData.tuple.inj h)⟩
instance {α β : Type} {r : Rep α} {s : Rep β} [d : Dat r] [e : Dat s] : Dat (z2 r s) := ⟨fun x => .tuple [d.enc x.1, e.enc x.2], d.dep + e.dep + 1, fun ⟨a, u, w, h1, h2, h3, h4⟩ => by subst h1; exact .tup (SqT.of h2) (.cons (d.dp h3) (.cons (e.dp h4) .nil)),
  fun ⟨a, u, w, h1, h2, h3, h4⟩ => by show (nb _ && (nb _ && true)) = true; rw [d.ok h3, e.ok h4]; rfl, fun x => by
    have h1 := d.dl x.1
    have h2 := e.dl x.2
    simp only [PyData.depth, PyData.depthAll]
    omega, fun {x y} h => by
    have h := PyData.tuple.inj h
    rw [List.cons.injEq, List.cons.injEq] at h
    exact Prod.ext (d.inj h.1) (e.inj h.2.1)⟩
instance {α β γ : Type} {r : Rep α} {s : Rep β} {t : Rep γ} [d : Dat r] [e : Dat s] [f : Dat t] : Dat (z3 r s t) := ⟨fun x => .tuple [d.enc x.1, e.enc x.2.1, f.enc x.2.2], d.dep + e.dep + f.dep + 1, fun ⟨a, u, w, z, h1, h2, h3, h4, h5⟩ => by subst h1; exact .tup (SqT.of h2) (.cons (d.dp h3) (.cons (e.dp h4) (.cons (f.dp h5) .nil))),
  fun ⟨a, u, w, z, h1, h2, h3, h4, h5⟩ => by show (nb _ && (nb _ && (nb _ && true))) = true; rw [d.ok h3, e.ok h4, f.ok h5]; rfl, fun x => by
    have h1 := d.dl x.1
    have h2 := e.dl x.2.1
    have h3 := f.dl x.2.2
    simp only [PyData.depth, PyData.depthAll]
    omega, fun {x y} h => by
    have h := PyData.tuple.inj h
    rw [List.cons.injEq, List.cons.injEq, List.cons.injEq] at h
    exact Prod.ext (d.inj h.1) (Prod.ext (e.inj h.2.1) (f.inj h.2.2.1))⟩
theorem dat_eqv {α : Type} [DecidableEq α] {r : Rep α} [d : Dat r] {v w : V} {x y : α} (hv : r.p F v x) (hw : r.p F w y) : PyData.eqv (d.enc x) (d.enc y) = decide (x = y) := by
  have h := eqv_nb (d.enc x) (d.enc y) (d.ok hv) (d.ok hw)
  by_cases e : x = y
  · rw [decide_eq_true e, h, e]
  · rw [decide_eq_false e]
    cases q : PyData.eqv (d.enc x) (d.enc y) with
    | false => rfl
    | true => exact absurd (d.inj (h.mp q)) e
theorem Dp.up {Kf : PySem.W.Frag} {v : V} {d : PyData} (h : Dp Kf F v d) (e : Same F H) : Dp Kf H v d := Dp.keep e d v h
theorem ops_eqD {Kf : PySem.W.Frag} {α : Type} [DecidableEq α] {r : Rep α} [d : Dat r] {x y : α} (hd : d.dep ≤ 64) (k : K (iz zB (decide (x = y))) Θ) : Ops fr Θ (rEqD Kf) (iz r x) (iz r y) K := fun F H v w ok hv hw Q q => by
  refine ⟨d.enc x, d.enc y, (d.dp hv).up ok.fh, (d.dp hw).up ok.fh, shaped_of (d.ok hv) (Nat.le_trans (d.dl x) hd), shaped_of (d.ok hw) (Nat.le_trans (d.dl y) hd), ?_⟩
  rw [dat_eqv (r := r) hv hw]
  exact q.go k ok rfl
theorem ops_neD {Kf : PySem.W.Frag} {α : Type} [DecidableEq α] {r : Rep α} [d : Dat r] {x y : α} (hd : d.dep ≤ 64) (k : K (iz zB (!decide (x = y))) Θ) : Ops fr Θ (rNeD Kf) (iz r x) (iz r y) K := fun F H v w ok hv hw Q q => by
  refine ⟨d.enc x, d.enc y, (d.dp hv).up ok.fh, (d.dp hw).up ok.fh, shaped_of (d.ok hv) (Nat.le_trans (d.dl x) hd), shaped_of (d.ok hw) (Nat.le_trans (d.dl y) hd), ?_⟩
  rw [dat_eqv (r := r) hv hw]
  exact q.go k ok rfl
end
end L2
set_option Elab.async false
set_option linter.all false
set_option maxRecDepth 100000
set_option maxHeartbeats 4000000
namespace L2
open PySem PySem.Spec PyProof.Rows PySem.HErr
def KVs {α : Type} (r : Rep α) (F : Hp) (kvs : List (Key × V)) (rows : List (Str × α)) : Prop := Paired (fun (kv : Key × V) (x : Str × α) => kv.1 = Sum.inr x.1 ∧ r.p F kv.2 x.2) kvs rows
theorem KVs.mono {α : Type} {r : Rep α} {F F' : Hp} {kvs : List (Key × V)} {rows : List (Str × α)} (h : KVs r F kvs rows) (e : Same F F') : KVs r F' kvs rows := Paired.imp2 (fun _ _ ⟨h1, h2⟩ => ⟨h1, r.mono e h2⟩) h
/-- a dict from texts, frozen -/
def zD {α : Type} (r : Rep α) : Rep (List (Str × α)) := ⟨fun F v rows => ∃ a kvs, v = .ref a ∧ F a = some (.dK kvs) ∧ KVs r F kvs rows, fun e ⟨a, kvs, h1, h2, h3⟩ => ⟨a, kvs, h1, e _ _ h2, h3.mono e⟩⟩
/-- the value by a key -/
def getR {α : Type} (rows : List (Str × α)) (n : Str) : Option α := (rows.find? fun x => decide (x.1 = n)).map (·.2)
theorem getR_mem {α : Type} {rows : List (Str × α)} {n : Str} {x : α} (h : getR rows n = some x) : (n, x) ∈ rows := by
  unfold getR at h
  obtain ⟨y, hy, e⟩ := Option.map_eq_some_iff.mp h
  have h1 := List.mem_of_find?_eq_some hy
  have h2 : decide (y.1 = n) = true := List.find?_some (p := fun (x : Str × α) => decide (x.1 = n)) hy
  have h2 := of_decide_eq_true h2
  subst h2 e
  exact h1
theorem getR_none {α : Type} {rows : List (Str × α)} {n : Str} : getR rows n = none ↔ n ∉ rows.map (·.1) := by
  unfold getR
  rw [Option.map_eq_none_iff, List.find?_eq_none]
  constructor
  · intro h q
    obtain ⟨y, hy, e⟩ := List.mem_map.mp q
    exact h y hy (by simp [e])
  · intro h y hy q
    exact h (List.mem_map.mpr ⟨y, hy, of_decide_eq_true q⟩)
theorem getR_nodup {α : Type} {rows : List (Str × α)} (hn : (rows.map (·.1)).Nodup) {n : Str} {x : α} (h : (n, x) ∈ rows) : getR rows n = some x := by
  cases e : getR rows n with
  | none => exact absurd (List.mem_map.mpr ⟨_, h, rfl⟩) (getR_none.mp e)
  | some y =>
    have h2 := getR_mem e
    have : ∀ {l : List (Str × α)}, (l.map (·.1)).Nodup → (n, x) ∈ l → (n, y) ∈ l → y = x := by
      intro l
      induction l with
      | nil => intro _ h; cases h
      | cons a l ih =>
        intro hn h1 h2
        rw [List.map_cons, List.nodup_cons] at hn
        rcases List.mem_cons.mp h1 with h1 | h1
        · rcases List.mem_cons.mp h2 with h2 | h2
          · rw [← h1] at h2
            exact (Prod.mk.inj h2).2
          · exact absurd (List.mem_map.mpr ⟨_, h2, by rw [← h1]⟩) hn.1
        · rcases List.mem_cons.mp h2 with h2 | h2
          · exact absurd (List.mem_map.mpr ⟨_, h1, by rw [← h2]⟩) hn.1
          · exact ih hn.2 h1 h2
    rw [this hn h h2]
section
variable {fr : Fr} {Γ Γ' : Gam} {Θ : List Cel} {F F' H H' : Hp} {K : Vp → List Cel → Prop} {Q : VK}
theorem KVs.val {α : Type} {r : Rep α} {n : Str} : ∀ {kvs : List (Key × V)} {rows : List (Str × α)}, KVs r F kvs rows → (∀ x, getR rows n = some x → ∃ u, valV kvs (Sum.inr n) = some u ∧ r.p F u x) ∧ (getR rows n = none → valV kvs (Sum.inr n) = none)
  | _, _, .nil => ⟨(fun x h => by cases h), fun _ => rfl⟩
  | kv :: kvs, (a, y) :: rows, .cons ⟨h1, h2⟩ hr => by
    have h1 : kv.1 = Sum.inr a := h1
    obtain ⟨ih1, ih2⟩ := KVs.val (n := n) hr
    by_cases e : a = n
    · subst e
      have e2 : getR ((a, y) :: rows) a = some y := by unfold getR; simp
      refine ⟨fun x hx => ?_, fun hx => ?_⟩
      · rw [e2] at hx
        cases hx
        exact ⟨kv.2, by rw [valV_pos h1], h2⟩
      · rw [e2] at hx
        cases hx
    · have e2 : getR ((a, y) :: rows) n = getR rows n := by unfold getR; simp [e]
      have hk : ¬ kv.1 = Sum.inr n := fun q => by rw [h1] at q; exact e (Sum.inr.inj q)
      rw [e2, valV_neg hk]
      exact ⟨ih1, ih2⟩
/-- a dict to be read -/
def DicP {α : Type} (fr : Fr) (Θ : List Cel) (p : Vp) (r : Rep α) (rows : List (Str × α)) : Prop := ∀ F H v, OkF fr Θ F H → p.p F v → ∃ a kvs, v = .ref a ∧ H a = some (.dK kvs) ∧ KVs r F kvs rows
theorem dic_D {α : Type} {r : Rep α} {rows : List (Str × α)} : DicP fr Θ (iz (zD r) rows) r rows := fun F H v ok ⟨a, kvs, h1, h2, h3⟩ => ⟨a, kvs, h1, ok.fh _ _ h2, h3⟩
theorem we_dget {td ty : TE} (w : We fr Γ Θ td fun p Θ1 => We fr Γ Θ1 ty fun q Θ2 => ∃ (α : Type) (r : Rep α) (rows : List (Str × α)) (n : Str) (x : α), DicP fr Θ2 p r rows ∧ q = iz zS n ∧ getR rows n = some x ∧ K (iz r x) Θ2) : We fr Γ Θ (tDGet td ty) K := fun σ F H ok env Q q =>
  w σ F H ok env _ fun p Θ1 k v F1 H1 s1 ok1 hp => k σ F1 H1 ok1 (env.mono s1) _ fun p2 Θ2 ⟨α, r, rows, n, x, hd, e, hx, kk⟩ v2 F2 H2 s2 ok2 hp2 => by
    subst e
    obtain ⟨a, kvs, h1, h2, h3⟩ := hd F2 H2 v ok2 (p.mono s2 hp)
    obtain ⟨u, hu, hr⟩ := h3.val.1 x hx
    exact ⟨a, u, h1, .inl ⟨kvs, Sum.inr n, .inl h2, hp2.1, hu.symm⟩, q _ _ kk u F2 H2 (s1.trans s2) ok2 hr⟩
theorem opt_some {α : Type} {r : Rep α} {rows : List (Str × α)} {kvs : List (Key × V)} {n : Str} (h3 : KVs r F kvs rows) : (valV kvs (Sum.inr n)).isSome = (getR rows n).isSome := by
  cases e : getR rows n with
  | none => rw [h3.val.2 e]; rfl
  | some x =>
    obtain ⟨u, hu, _⟩ := h3.val.1 x e
    rw [hu]
    rfl
theorem we_din {td ty : TE} (w : We fr Γ Θ ty fun q Θ1 => We fr Γ Θ1 td fun p Θ2 => ∃ (α : Type) (r : Rep α) (rows : List (Str × α)) (n : Str), DicP fr Θ2 p r rows ∧ q = iz zS n ∧ K (iz zB (getR rows n).isSome) Θ2) : We fr Γ Θ (tDIn ty td) K := fun σ F H ok env Q q =>
  w σ F H ok env _ fun p Θ1 k v F1 H1 s1 ok1 hp => k σ F1 H1 ok1 (env.mono s1) _ fun p2 Θ2 ⟨α, r, rows, n, hd, e, kk⟩ v2 F2 H2 s2 ok2 hp2 => by
    subst e
    obtain ⟨a, kvs, h1, h2, h3⟩ := hd F2 H2 v2 ok2 hp2
    refine ⟨a, _, h1, .inl ⟨kvs, Sum.inr n, .inl h2, hp.1, rfl⟩, q _ _ kk _ F2 H2 (s1.trans s2) ok2 ?_⟩
    show _ = V.bl _
    rw [opt_some h3]
theorem we_dnin {td ty : TE} (w : We fr Γ Θ ty fun q Θ1 => We fr Γ Θ1 td fun p Θ2 => ∃ (α : Type) (r : Rep α) (rows : List (Str × α)) (n : Str), DicP fr Θ2 p r rows ∧ q = iz zS n ∧ K (iz zB (!(getR rows n).isSome)) Θ2) : We fr Γ Θ (tDNotIn ty td) K := fun σ F H ok env Q q =>
  w σ F H ok env _ fun p Θ1 k v F1 H1 s1 ok1 hp => k σ F1 H1 ok1 (env.mono s1) _ fun p2 Θ2 ⟨α, r, rows, n, hd, e, kk⟩ v2 F2 H2 s2 ok2 hp2 => by
    subst e
    obtain ⟨a, kvs, h1, h2, h3⟩ := hd F2 H2 v2 ok2 hp2
    refine ⟨a, _, h1, .inl ⟨kvs, Sum.inr n, .inl h2, hp.1, rfl⟩, q _ _ kk _ F2 H2 (s1.trans s2) ok2 ?_⟩
    show _ = V.bl _
    rw [opt_some h3]
def putR {α : Type} (rows : List (Str × α)) (n : Str) (x : α) : List (Str × α) := if n ∈ rows.map (·.1) then rows.map fun y => if y.1 = n then (y.1, x) else y else rows ++ [(n, x)]
theorem KVs.put {α : Type} {r : Rep α} {kvs : List (Key × V)} {rows : List (Str × α)} {n : Str} {x : α} {u : V} (h : KVs r F kvs rows) (hu : r.p F u x) : KVs r F (putK kvs (Sum.inr n) u) (putR rows n x) := by
  have hk : (kvs.any fun kv => decide (kv.1 = Sum.inr n)) = decide (n ∈ rows.map (·.1)) := by
    induction h with
    | nil => rfl
    | cons a b ih =>
      rename_i kv y kvs rows
      rw [List.any_cons, ih, a.1, List.map_cons]
      by_cases e : y.1 = n
      · rw [decide_eq_true (by rw [e]), Bool.true_or, decide_eq_true (by rw [e]; exact List.mem_cons_self ..)]
      · rw [decide_eq_false (fun q => e (Sum.inr.inj q)), Bool.false_or]
        by_cases e2 : n ∈ rows.map (·.1)
        · rw [decide_eq_true e2, decide_eq_true (List.mem_cons_of_mem _ e2)]
        · rw [decide_eq_false e2, decide_eq_false fun q => (List.mem_cons.mp q).elim (fun q => e q.symm) e2]
  unfold putK putR
  by_cases e : n ∈ rows.map (·.1)
  · rw [if_pos e, if_pos (by rw [hk]; exact decide_eq_true e)]
    clear hk e
    induction h with
    | nil => exact .nil
    | cons a b ih =>
      refine .cons ?_ ih
      rename_i kv y kvs rows
      dsimp only
      by_cases e : y.1 = n
      · rw [if_pos e, if_pos (by rw [a.1, e])]
        exact ⟨a.1, hu⟩
      · rw [if_neg e, if_neg (fun q => e (Sum.inr.inj (a.1.symm.trans q)))]
        exact a
  · rw [if_neg e, if_neg (by rw [hk]; simpa using e)]
    exact PySem.Paired.snoc h ⟨rfl, hu⟩
end
structure PlanOk (d : PlanD) : Prop where
  pa : ∀ y ∈ d.places, Wd y
  pn : d.places.Nodup
  bl : d.begin.length = d.places.length
  bn : ∀ n ∈ d.begin, 0 ≤ n ∧ n ≤ 99
  st : ∀ r ∈ d.steps, Wd r.1 ∧ r.2.1 ≠ [] ∧ inOrd d.places r.2.1 = r.2.1 ∧ inOrd d.places r.2.2 = r.2.2
  sn : d.names.Nodup
  p12 : d.places.length ≤ 12
  s16 : d.steps.length ≤ 16
theorem inOrd_sub {ps ns : List Str} {y : Str} (h : y ∈ inOrd ps ns) : y ∈ ps ∧ y ∈ ns := by
  unfold inOrd at h
  obtain ⟨h1, h2⟩ := List.mem_filter.mp h
  exact ⟨h1, of_decide_eq_true h2⟩
theorem PlanOk.tk {d : PlanD} (h : PlanOk d) {r : SRow} (hr : r ∈ d.steps) {y : Str} (hy : y ∈ r.2.1) : y ∈ d.places := by
  rw [← (h.st r hr).2.2.1] at hy
  exact (inOrd_sub hy).1
theorem PlanOk.gv {d : PlanD} (h : PlanOk d) {r : SRow} (hr : r ∈ d.steps) {y : Str} (hy : y ∈ r.2.2) : y ∈ d.places := by
  rw [← (h.st r hr).2.2.2] at hy
  exact (inOrd_sub hy).1
def zPlan (C : Addr) : Rep PlanD := ⟨fun F v d => ∃ x, v = .ref x ∧ PlanAt F C x d ∧ PlanOk d, fun e ⟨x, h1, h2, h3⟩ => ⟨x, h1, h2.keep e, h3⟩⟩
def PlanD.tk (d : PlanD) : List (Str × List Str) := d.steps.map fun s => (s.1, s.2.1)
def PlanD.gv (d : PlanD) : List (Str × List Str) := d.steps.map fun s => (s.1, s.2.2)
section
variable {fr : Fr} {Γ Γ' : Gam} {Θ : List Cel} {F F' H H' : Hp} {K : PySem.W.Frag} {C : Addr} {d : PlanD}
theorem strs_pvs {ws : List Str} (h : ∀ y ∈ ws, Asc y) : PVs zS F (ws.map V.str) ws := by
  induction ws with
  | nil => exact .nil
  | cons a ws ih => exact .cons ⟨rfl, h a (List.mem_cons_self ..)⟩ (ih fun y hy => h y (List.mem_cons_of_mem _ hy))
theorem ints_pvs {ws : List Int} : PVs zI F (ws.map V.int) ws := by
  induction ws with
  | nil => exact .nil
  | cons a ws ih => exact .cons rfl ih
theorem tab_kvs : ∀ {kvs : List (Key × V)} {rows : List (Str × List Str)}, TabAt F kvs rows → (∀ r ∈ rows, ∀ y ∈ r.2, Asc y) → KVs (zT zS) F kvs rows
  | _, _, .nil, _ => .nil
  | _, _, .cons ⟨h1, t, h2, h3⟩ r, h => .cons ⟨h1, t, _, h2, .inl h3, strs_pvs (h _ (List.mem_cons_self ..))⟩ (tab_kvs r fun r' hr => h r' (List.mem_cons_of_mem _ hr))
/-- the class Plan, as the top left it -/
structure PlanK (K : PySem.W.Frag) (C : Addr) : Prop where
  cl : Cls K C
  nP : NoAttr K C "places"
  nB : NoAttr K C "begin"
  nT : NoAttr K C "taken"
  nG : NoAttr K C "given"
  nS : NoAttr K C "steps"
theorem fld_places (T : PlanK K C) : FldR K "places" (iz (zPlan C) d) (iz (zT zS) d.places) := fun F v ⟨x, h1, h2, h3⟩ => by
  obtain ⟨dx, tp, tb, td, tg, ts, kt, kg, p1, p2, p3, p4, p5, p6, p7, p8⟩ := h2.ex
  exact ⟨x, C, dx, _, _, h1, p1, T.cl, T.nP, rfl, tp, _, rfl, p2.tb, strs_pvs fun y hy => (h3.pa y hy).asc⟩
theorem fld_begin (T : PlanK K C) : FldR K "begin" (iz (zPlan C) d) (iz (zT zI) d.begin) := fun F v ⟨x, h1, h2, h3⟩ => by
  obtain ⟨dx, tp, tb, td, tg, ts, kt, kg, p1, p2, p3, p4, p5, p6, p7, p8⟩ := h2.ex
  exact ⟨x, C, dx, _, _, h1, p1, T.cl, T.nB, rfl, tb, _, rfl, .inl p3, ints_pvs⟩
theorem fld_steps (T : PlanK K C) : FldR K "steps" (iz (zPlan C) d) (iz (zT zS) d.names) := fun F v ⟨x, h1, h2, h3⟩ => by
  obtain ⟨dx, tp, tb, td, tg, ts, kt, kg, p1, p2, p3, p4, p5, p6, p7, p8⟩ := h2.ex
  refine ⟨x, C, dx, _, _, h1, p1, T.cl, T.nS, rfl, ts, _, rfl, p6, strs_pvs fun y hy => ?_⟩
  obtain ⟨r, hr, rfl⟩ := List.mem_map.mp hy
  exact (h3.st r hr).1.asc
theorem fld_taken (T : PlanK K C) : FldR K "taken" (iz (zPlan C) d) (iz (zD (zT zS)) d.tk) := fun F v ⟨x, h1, h2, h3⟩ => by
  obtain ⟨dx, tp, tb, td, tg, ts, kt, kg, p1, p2, p3, p4, p5, p6, p7, p8⟩ := h2.ex
  refine ⟨x, C, dx, _, _, h1, p1, T.cl, T.nT, rfl, td, kt, rfl, p4, tab_kvs p7 fun r hr y hy => ?_⟩
  obtain ⟨s, hs, rfl⟩ := List.mem_map.mp hr
  exact (h3.pa y (h3.tk hs hy)).asc
theorem fld_given (T : PlanK K C) : FldR K "given" (iz (zPlan C) d) (iz (zD (zT zS)) d.gv) := fun F v ⟨x, h1, h2, h3⟩ => by
  obtain ⟨dx, tp, tb, td, tg, ts, kt, kg, p1, p2, p3, p4, p5, p6, p7, p8⟩ := h2.ex
  refine ⟨x, C, dx, _, _, h1, p1, T.cl, T.nG, rfl, tg, kg, rfl, p5, tab_kvs p8 fun r hr y hy => ?_⟩
  obtain ⟨s, hs, rfl⟩ := List.mem_map.mp hr
  exact (h3.pa y (h3.gv hs hy)).asc
/-- a plan is an instance; none of these is a field of it -/
theorem ins_plan {m : Str} (hm : ([("places", (0 : Nat)), ("begin", 0), ("taken", 0), ("given", 0), ("steps", 0)] : List (Str × Nat)).lookup m = none) : InsP fr Θ (iz (zPlan C) d) C m := fun F H v ok ⟨x, h1, h2, h3⟩ => by
  obtain ⟨dx, tp, tb, td, tg, ts, kt, kg, p1, p2, p3, p4, p5, p6, p7, p8⟩ := h2.ex
  refine ⟨x, dx, _, h1, ok.fh _ _ p1, ?_⟩
  simp only [List.lookup_cons] at hm ⊢
  revert hm
  cases (m == ("places" : Str)) <;> cases (m == ("begin" : Str)) <;> cases (m == ("taken" : Str)) <;> cases (m == ("given" : Str)) <;> cases (m == ("steps" : Str)) <;> simp
/-- all that is new is frozen -/
def newF (F H H' : Hp) : Hp := fun a => match H a with
  | none => H' a
  | some _ => F a
theorem newF_of (fh : Same F H) (hh : Same H H') : Same F (newF F H H') ∧ Same (newF F H H') H' ∧ Newer F H (newF F H H') := by
  refine ⟨fun a o h => ?_, fun a o h => ?_, fun a o h => ?_⟩
  · unfold newF
    rw [fh a o h]
    exact h
  · unfold newF at h
    cases q : H a with
    | none => rw [q] at h; exact h
    | some u => rw [q] at h; exact hh _ _ (fh _ _ h)
  · unfold newF at h
    cases q : H a with
    | none => exact .inr (.inl q)
    | some u => rw [q] at h; exact .inl ⟨o, h⟩
end
/-- the class Plan and its name -/
structure PlanC (K : PySem.W.Frag) (mg : Str → Option Value) (C : Addr) : Prop where
  cl : Cls K C
  gC : mg "Plan" = some (.ref C)
  nP : NoAttr K C "places"
  nB : NoAttr K C "begin"
  nT : NoAttr K C "taken"
  nG : NoAttr K C "given"
  nS : NoAttr K C "steps"
section
variable {K : PySem.W.Frag} {mg : Str → Option Value} {C : Addr} {fr : Fr} {Θ : List Cel} {d : PlanD}
theorem PlanC.k (T : PlanC K mg C) : PlanK K C := ⟨T.cl, T.nP, T.nB, T.nT, T.nG, T.nS⟩
theorem fldP_places (T : PlanC K mg C) : FldP fr Θ K "places" (iz (zPlan C) d) (iz (zT zS) d.places) := (fld_places T.k).p
theorem fldP_begin (T : PlanC K mg C) : FldP fr Θ K "begin" (iz (zPlan C) d) (iz (zT zI) d.begin) := (fld_begin T.k).p
theorem fldP_steps (T : PlanC K mg C) : FldP fr Θ K "steps" (iz (zPlan C) d) (iz (zT zS) d.names) := (fld_steps T.k).p
theorem fldP_taken (T : PlanC K mg C) : FldP fr Θ K "taken" (iz (zPlan C) d) (iz (zD (zT zS)) d.tk) := (fld_taken T.k).p
theorem fldP_given (T : PlanC K mg C) : FldP fr Θ K "given" (iz (zPlan C) d) (iz (zD (zT zS)) d.gv) := (fld_given T.k).p
end
theorem is_var {fr : Fr} {Γ : Gam} {Θ : List Cel} {K : Vp → List Cel → Prop} {i : Nat} (h : We fr Γ Θ (tVar i) K) : We fr Γ Θ (tVar i) K := h
theorem is_cS {fr : Fr} {Γ : Gam} {Θ : List Cel} {K : Vp → List Cel → Prop} {z : Str} (h : We fr Γ Θ (tC (.str z)) K) : We fr Γ Θ (tC (.str z)) K := h
theorem asc_of {z : Str} (h : (z.cps.toList.all fun c => decide (c < 128)) = true) : Asc z := fun c hc => of_decide_eq_true (List.all_eq_true.mp h c hc)
end L2
set_option Elab.async false
set_option linter.all false
set_option maxRecDepth 100000
set_option maxHeartbeats 4000000
namespace L2
open PySem PySem.Spec PyProof.Rows PySem.HErr
section
variable {fr : Fr} {Γ Γ' : Gam} {Θ : List Cel} {F F' H H' : Hp} {K : Vp → List Cel → Prop} {Q : VK}
theorem wipe_sub {σ σ' : L2.St} {vs us : List Nat} (h : L2.wipe σ' vs = L2.wipe σ vs) (hs : ∀ v ∈ vs, v ∈ us) : L2.wipe σ' us = L2.wipe σ us := by
  have hl : σ'.length = σ.length := by
    have := congrArg List.length h
    rw [wipe_length, wipe_length] at this
    exact this
  apply List.ext_getElem?
  intro j
  have hj : (L2.wipe σ' vs)[j]? = (L2.wipe σ vs)[j]? := by rw [h]
  rw [wipe_get, wipe_get] at hj ⊢
  rw [hl] at hj ⊢
  by_cases h1 : j ∈ us ∧ j < σ.length
  · rw [if_pos h1, if_pos h1]
  · rw [if_neg h1, if_neg h1]
    have h2 : ¬ (j ∈ vs ∧ j < σ.length) := fun q => h1 ⟨hs j q.1, q.2⟩
    rw [if_neg h2, if_neg h2] at hj
    exact hj
theorem TgR.sub {g : TG} {vs us : List Nat} {p : Vp} (h : TgR g vs p Γ Γ') (hs : ∀ v ∈ vs, v ∈ us) : TgR g us p Γ Γ' := fun σ F H v fh env hp Q q => h σ F H v fh env hp Q fun σ' e hw => q σ' e (wipe_sub hw hs)
end
end L2
set_option Elab.async false
set_option linter.all false
set_option maxRecDepth 100000
set_option maxHeartbeats 4000000
namespace L2
open PySem PySem.Spec PyProof.Rows PySem.HErr
section
variable {fr : Fr} {Γ Γ' : Gam} {Θ Θ' : List Cel} {F F' H H' : Hp} {K : Vp → List Cel → Prop} {Q : VK}
theorem OkF.perm (k : OkF fr Θ F H) (p : Θ.Perm Θ') : OkF fr Θ' F H := ⟨k.fh, k.f0, k.nw, k.h0, k.al, (p.map Cel.a).nodup_iff.mp k.nd, fun c hc => k.ce c (p.mem_iff.mpr hc)⟩
theorem Kn.perm {P : L2.St → Hp → Prop} (k : Kn fr Γ Θ' P) (p : Θ.Perm Θ') : Kn fr Γ Θ P := fun σ F H ok env => k σ F H (ok.perm p) env
def cells {α : Type} (r : Rep α) (as : List Addr) (ls : List (List α)) : List Cel := (as.zip ls).map fun x => cL x.1 r x.2
end
end L2
set_option Elab.async false
set_option linter.all false
set_option maxRecDepth 100000
set_option maxHeartbeats 4000000
namespace L2
open PySem PySem.Spec PyProof.Rows PySem.HErr
/-- an instance of one's own -/
def cI (a C dx : Addr) (fs : List (Str × Vp)) : Cel := ⟨a, true, fun F o => ∃ us, o = .ins C dx us ∧ FsOk F fs us, fun e ⟨us, h1, h2⟩ => ⟨us, h1, h2.mono e⟩, fun h e => by subst e; simp at h⟩
def putP (f : Str) (p : Vp) : List (Str × Vp) → List (Str × Vp)
  | [] => [(f, p)]
  | (g, q) :: r => if g = f then (g, p) :: r else (g, q) :: putP f p r
section
variable {fr : Fr} {Γ Γ' : Gam} {Θ Θ' : List Cel} {F F' H H' : Hp} {K : Vp → List Cel → Prop} {Q : VK}
theorem FsOk.put {f : Str} {p : Vp} {v : V} (hp : p.p F v) : ∀ {fs : List (Str × Vp)} {us : List (Str × V)}, FsOk F fs us → FsOk F (putP f p fs) (putF f v us)
  | _, _, .nil => .cons ⟨rfl, hp⟩ .nil
  | (g, q) :: fs, (g', u) :: us, .cons ⟨h1, h2⟩ r => by
    have h1 : g = g' := h1
    subst h1
    unfold putP putF
    by_cases e : g = f
    · rw [if_pos e, if_pos e]
      exact .cons ⟨rfl, hp⟩ r
    · rw [if_neg e, if_neg e]
      exact .cons ⟨rfl, h2⟩ (FsOk.put hp r)
/-- self.f = e -/
theorem kn_fldPut {Kf : PySem.W.Frag} {f : Str} {ta tv : TE} {D : Ends} (w : We fr Γ Θ tv fun p Θ1 => We fr Γ Θ1 ta fun q Θ2 => ∃ a C dx fs j, q = zAt a ∧ Θ2[j]? = some (cI a C dx fs) ∧ Cls Kf C ∧ NoAttr Kf C f ∧ fs.length < 1000 ∧ Kn fr Γ (Θ2.set j (cI a C dx (putP f p fs))) D.nx) : Kn fr Γ Θ (sFld Kf ta tv f D) := fun σ F H ok env =>
  w σ F H ok env _ fun p Θ1 k v F1 H1 s1 ok1 hp => k σ F1 H1 ok1 (env.mono s1) _ fun p2 Θ2 ⟨a, C, dx, fs, j, e, hj, hc, hn, hl, kk⟩ v2 F2 H2 s2 ok2 hp2 => by
    subst e
    obtain ⟨_, ⟨o, h2, us, rfl, h4⟩, _⟩ := ok2.ce _ (List.mem_of_getElem? hj)
    exact ⟨a, C, dx, us, hp2, h2, hc, hn, by rw [← Paired.len h4]; exact hl, kk σ F2 _ (ok2.mut hj rfl rfl ⟨_, rfl, h4.put (p.mono s2 hp)⟩) ((env.mono s1).mono s2)⟩
def minus (H : Hp) (x : Addr) : Hp := fun a => if a = x then none else H a
theorem minus_ne {x a : Addr} (h : a ≠ x) : minus H x a = H a := if_neg h
theorem minus_self {x : Addr} : minus H x x = none := if_pos rfl
/-- what __init__ promises: out tells what the instance at x then is -/
def spI (C : Addr) (pre : Pre) : Sp := fun vs H Q E => ∃ x dx vs' F ps out err, vs = .ref x :: vs' ∧ H x = some (.ins C dx []) ∧ F x = none ∧ Same F H ∧ Paired (fun (p : Vp) v => p.p F v) ps vs' ∧ pre ps out err ∧
  (∀ p, out p → ∀ F' H', Same (minus H x) H' → Same F F' → Same F' H' → Newer F (minus H x) F' → p.p F' (.ref x) → Q .non H') ∧ (∀ e, err e → ∀ F' H' d us, Same (minus H x) H' → Same F F' → Same F' H' → Newer F (minus H x) F' → F' d = some (.xd us) → FsOk F' e.fs us → E (.ref e.C) (some d) H')
theorem we_mk {C : Addr} {pre : Pre} {E : L2.St → XK} {t : TA} (w : Wa fr Γ Θ t fun ps Θ1 => ∃ out err, pre ps out err ∧ (∀ p, out p → K p Θ1) ∧ ∀ e, err e → Kr fr Γ Θ1 (fun cls d σ H => E σ cls d H) e) : We fr Γ Θ (tMkD C (spI C pre) E t) K := fun σ F H ok env Q q =>
  w σ F H ok env _ fun ps Θ1 ⟨out, err, hp, ko, ke⟩ vs F1 H1 s1 ok1 hps => fun x dx nx ndx ne => by
    have hs : Same H1 (upd (upd H1 dx (.own x)) x (.ins C dx [])) := (same_upd ndx).trans (same_upd (by rw [upd_ne (Ne.symm ne)]; exact nx))
    have hm : ∀ {H' : Hp}, Same (minus (upd (upd H1 dx (.own x)) x (.ins C dx [])) x) H' → Same H1 H' := fun h a o e => h a o (by rw [minus_ne (ne_of_none e nx)]; exact hs a o e)
    have hn : ∀ {F' : Hp}, Newer F1 (minus (upd (upd H1 dx (.own x)) x (.ins C dx [])) x) F' → Newer F1 H1 F' := fun h a o e => by
      rcases h a o e with h' | h'
      · exact .inl h'
      · refine .inr (h'.elim (fun h' => ?_) .inr)
        by_cases ea : a = x
        · rw [ea]; exact .inl nx
        · rw [minus_ne ea] at h'
          exact .inl (hs.free h')
    refine ⟨x, dx, vs, F1, ps, out, err, rfl, upd_same, ok1.fh.free nx, ok1.fh.trans hs, hps, hp, fun p ho F' H' hh ff fh nw hv => ⟨rfl, ?_⟩, fun e he F' H' d us hh ff fh nw hd hf => ?_⟩
    · exact q p Θ1 (ko p ho) _ F' H' (s1.trans ff) (ok1.grow (hm hh) ff fh (hn nw)) hv
    · exact ke e he σ F' H' (ok1.grow (hm hh) ff fh (hn nw)) ((env.mono s1).mono ff) d us hd hf
theorem okf_init {x C dx : Addr} (hx : H x = some (.ins C dx [])) (fx : F x = none) (fh : Same F H) : OkF ⟨F, minus H x, []⟩ [cI x C dx []] F H := by
  refine ⟨fh, Same.refl F, fun a o h => .inl ⟨o, h⟩, fun a o _ h => ?_, fun a o h => ?_, by simp, fun c hc => ?_⟩
  · have h : minus H x a = some o := h
    by_cases e : a = x
    · rw [e, minus_self] at h; cases h
    · rw [minus_ne e] at h; exact h
  · have h : minus H x a = some o := h
    by_cases e : a = x
    · rw [e, minus_self] at h; cases h
    · rw [minus_ne e] at h; exact ⟨o, h⟩
  · rw [List.mem_singleton.mp hc]
    exact ⟨fx, ⟨_, hx, [], rfl, .nil⟩, minus_self⟩
end
section
variable {P : Program} {w : World} {K : PySem.W.Frag} {mg : Str → Option Value} {base : Heap} {qual : Str} {C : Addr} {st : Stmt} {N ps : List Str} {k : Nat} {pre : Pre}
/-- the body of __init__: at its end the instance is what out says -/
theorem SrcI.okAX (F : SrcI K C qual st ps) (S : FnScope N ps (defScope st)) (len : ∀ qs out err, pre qs out err → qs.length + 1 = ps.length)
    (hbody : ∀ (f : Addr) (cdv : Value) (A : Around) (outer : List Env) (s : Shared) (H : Hp) (E : XK) (qs : List Vp) (out : Vp → Prop) (err : Er → Prop), Room k (A.deeper (envOfC qual (defScope st) s.heap.objs.size f cdv)) → pre qs out err →
      ∃ t, PSs (cxOf (L2.CX P w) P w K mg base N qual (defScope st) f cdv A outer s H E) (defBody st) t ∧ ∀ fr x dx (Q : L2.St → Hp → Prop) (rt : VK), (∀ p, out p → ∀ σ F H, (∃ Θ, OkF fr Θ F H) → p.p F (.ref x) → Q σ H) → (∀ p, out p → ∀ F H, (∃ Θ, OkF fr Θ F H) → p.p F (.ref x) → rt .non H) → Rse fr E err →
        Kn fr (envOf N (zAt x :: qs)) [cI x C dx []] (t { nx := Q, rt := rt })) : DefI P w K mg base (L2.CX P w) (k + 1) C ps (spI C pre) := by
  refine F.okX S (fun vs H Q E h => ?_) (fun f cdv A outer s H vs Q E hr h => ?_)
  · obtain ⟨x, dx, vs', F, qs, out, err, rfl, _, _, _, h2, h3, _⟩ := h
    rw [List.length_cons, ← Paired.len h2]
    exact len _ _ _ h3
  · obtain ⟨x, dx, vs', F, qs, out, err, rfl, hx, fx, fh, h2, h3, h4, h5⟩ := h
    obtain ⟨t, ht, hk⟩ := hbody f cdv A outer s H E qs out err hr h3
    have post : ∀ {Θ : List Cel} {F' H' : Hp}, OkF ⟨F, minus H x, []⟩ Θ F' H' → Same (minus H x) H' ∧ Same F F' ∧ Same F' H' ∧ Newer F (minus H x) F' := fun ok => ⟨fun a o h => ok.h0 a o (by simp) h, ok.f0, ok.fh, ok.nw⟩
    have c1 : ∀ p, out p → ∀ (σ : L2.St) F' H', (∃ Θ, OkF ⟨F, minus H x, []⟩ Θ F' H') → p.p F' (.ref x) → Q .non H' := fun p hp σ F' H' ⟨Θ, ok⟩ hv => by
      obtain ⟨a, b, c, d⟩ := post ok
      exact h4 p hp F' H' a b c d hv
    have c2 : Rse ⟨F, minus H x, []⟩ E err := fun e he Θ F' H' d us ok hd hf => by
      obtain ⟨a, b, c, n⟩ := post ok
      exact h5 e he F' H' d us a b c n hd hf
    exact ⟨t, ht, hk ⟨F, minus H x, []⟩ x dx (fun _ H' => Q .non H') Q c1 (fun p hp F' H' => c1 p hp [] F' H') c2 _ F H (okf_init hx fx fh) (env_start (vs := .ref x :: vs') (.cons rfl h2))⟩
end
section
variable {F F' H H' : Hp} {E : XK} {err : Er → Prop}
theorem Post.new {Q : VK} {out : Vp → Prop} {p : Vp} {v : V} (h : Post F H Q out) (fh : Same F H) (hp : out p) (hh : Same H H') (hf : p.p (newF F H H') v) : Q v H' := by
  obtain ⟨n1, n2, n3⟩ := newF_of fh hh
  exact h p hp v _ H' hh n1 n2 n3 hf
end
end L2
set_option Elab.async false
set_option linter.all false
set_option maxRecDepth 100000
set_option maxHeartbeats 4000000
namespace L2
open PySem PySem.Spec PyProof.Rows PySem.HErr
def tagC (c : Cel) : Addr × Bool := (c.a, c.own)
def CellsAt (F H : Hp) (Θ : List Cel) : Prop := (Θ.map Cel.a).Nodup ∧ ∀ c ∈ Θ, F c.a = none ∧ ∃ o, H c.a = some o ∧ c.φ F o
def SameX (as : List Addr) (H H' : Hp) : Prop := ∀ a o, a ∉ as → H a = some o → H' a = some o
def minusL (H : Hp) (as : List Addr) : Hp := fun a => if a ∈ as then none else H a
abbrev PreC := List Vp → List Cel → (Vp → List Cel → Prop) → (Er → List Cel → Prop) → Prop
structure Eff (F H : Hp) (Θ : List Cel) (F' H' : Hp) (Θ' : List Cel) : Prop where
  hh : SameX (Θ.map Cel.a) H H'
  ff : Same F F'
  fh : Same F' H'
  nw : Newer F H F'
  ca : CellsAt F' H' Θ'
  tg : Θ'.map tagC = Θ.map tagC
def spC (pre : PreC) : Sp := fun vs H Q E => ∃ F ps Θ out err, Same F H ∧ CellsAt F H Θ ∧ Paired (fun (p : Vp) v => p.p F v) ps vs ∧ pre ps Θ out err ∧
  (∀ p Θ', out p Θ' → ∀ v F' H', Eff F H Θ F' H' Θ' → p.p F' v → Q v H') ∧ (∀ e Θ', err e Θ' → ∀ F' H' d us, Eff F H Θ F' H' Θ' → F' d = some (.xd us) → FsOk F' e.fs us → E (.ref e.C) (some d) H')
section
variable {fr : Fr} {Γ Γ' : Gam} {Θ Θ' Θl Θr : List Cel} {F F' H H' : Hp} {K : Vp → List Cel → Prop} {Q : VK}
theorem tag_a (h : Θ'.map tagC = Θ.map tagC) : Θ'.map Cel.a = Θ.map Cel.a := by
  have := congrArg (List.map Prod.fst) h
  rw [List.map_map, List.map_map] at this
  exact this
theorem tag_mem (h : Θ'.map tagC = Θ.map tagC) {c : Cel} (hc : c ∈ Θ') : ∃ d ∈ Θ, d.a = c.a ∧ d.own = c.own := by
  have : tagC c ∈ Θ.map tagC := by rw [← h]; exact List.mem_map.mpr ⟨c, hc, rfl⟩
  obtain ⟨d, hd, e⟩ := List.mem_map.mp this
  exact ⟨d, hd, (Prod.mk.inj e).1, (Prod.mk.inj e).2⟩
theorem OkF.cellsAt (k : OkF fr (Θl ++ Θr) F H) : CellsAt F H Θl := by
  have := k.nd
  rw [List.map_append, List.nodup_append] at this
  exact ⟨this.1, fun c hc => by
    obtain ⟨h1, h2, _⟩ := k.ce c (List.mem_append_left _ hc)
    exact ⟨h1, h2⟩⟩
theorem OkF.eff (k : OkF fr (Θl ++ Θr) F H) (e : Eff F H Θl F' H' Θ') : OkF fr (Θ' ++ Θr) F' H' := by
  have ea := tag_a e.tg
  have hB : ∀ c ∈ Θl ++ Θr, ∀ a o, a ∉ fr.B → fr.H0 a = some o → a ≠ c.a := fun c hc a o hb h q => by
    obtain ⟨_, _, h4⟩ := k.ce c hc
    cases ho : c.own with
    | true =>
      rw [if_pos ho] at h4
      rw [q, h4] at h
      cases h
    | false =>
      rw [if_neg (by rw [ho]; exact Bool.false_ne_true)] at h4
      rw [q] at hb
      exact hb h4
  have nl : ∀ a o, a ∉ fr.B → fr.H0 a = some o → a ∉ Θl.map Cel.a := fun a o hb h q => by
    obtain ⟨c, hc, e⟩ := List.mem_map.mp q
    exact hB c (List.mem_append_left _ hc) a o hb h e.symm
  refine ⟨e.fh, k.f0.trans e.ff, fun a o h => ?_, fun a o hb h => ?_, fun a o h => ?_, ?_, fun c hc => ?_⟩
  · exact k.nwr e.ff h (e.nw a o h)
  · exact e.hh a o (nl a o hb h) (k.h0 a o hb h)
  · by_cases q : a ∈ Θl.map Cel.a
    · rw [← ea] at q
      obtain ⟨c, hc, e1⟩ := List.mem_map.mp q
      obtain ⟨_, o', h', _⟩ := e.ca.2 c hc
      exact ⟨o', by rw [← e1]; exact h'⟩
    · obtain ⟨o', h'⟩ := k.al a o h
      exact ⟨o', e.hh a o' q h'⟩
  · rw [List.map_append, ea, ← List.map_append]
    exact k.nd
  · rcases List.mem_append.mp hc with hc | hc
    · obtain ⟨h1, h2⟩ := e.ca.2 c hc
      refine ⟨h1, h2, ?_⟩
      obtain ⟨d, hd, e1, e2⟩ := tag_mem e.tg hc
      have := (k.ce d (List.mem_append_left _ hd)).2.2
      rw [e1, e2] at this
      exact this
    · obtain ⟨h1, ⟨u, h2, h3⟩, h4⟩ := k.ce c (List.mem_append_right _ hc)
      have ne : c.a ∉ Θl.map Cel.a := fun q => by
        have := k.nd
        rw [List.map_append, List.nodup_append] at this
        exact this.2.2 _ q _ (List.mem_map.mpr ⟨c, hc, rfl⟩) rfl
      refine ⟨?_, ⟨u, e.hh _ _ ne h2, c.mono e.ff h3⟩, h4⟩
      cases q : F' c.a with
      | none => rfl
      | some o =>
        rcases e.nw _ _ q with ⟨o', h'⟩ | h' | ⟨vs, ht⟩
        · rw [h1] at h'
          cases h'
        · rw [h2] at h'
          cases h'
        · have e1 := e.fh _ _ q
          rw [e.hh _ _ ne h2] at e1
          exact (c.nt h3 ((Option.some.inj e1).trans ht)).elim
theorem okf_lent (fh : Same F H) (hc : CellsAt F H Θ) (ho : ∀ c ∈ Θ, c.own = true) : OkF ⟨F, minusL H (Θ.map Cel.a), []⟩ Θ F H := by
  refine ⟨fh, Same.refl F, fun a o h => .inl ⟨o, h⟩, fun a o _ h => ?_, fun a o h => ?_, hc.1, fun c hm => ?_⟩
  · have h : minusL H (Θ.map Cel.a) a = some o := h
    unfold minusL at h
    split at h
    · cases h
    · exact h
  · have h : minusL H (Θ.map Cel.a) a = some o := h
    unfold minusL at h
    split at h
    · cases h
    · exact ⟨o, h⟩
  · obtain ⟨h1, h2⟩ := hc.2 c hm
    refine ⟨h1, h2, ?_⟩
    rw [if_pos (ho c hm)]
    show minusL H (Θ.map Cel.a) c.a = none
    unfold minusL
    rw [if_pos (List.mem_map.mpr ⟨c, hm, rfl⟩)]
/-- Θ'' holds the cells Θ' (and others, which are let go) -/
theorem eff_of {Θ'' Θx : List Cel} (hc : CellsAt F H Θ) (ok : OkF ⟨F, minusL H (Θ.map Cel.a), []⟩ Θ'' F' H') (pm : Θ''.Perm (Θ' ++ Θx)) (tg : Θ'.map tagC = Θ.map tagC) : Eff F H Θ F' H' Θ' := by
  refine ⟨fun a o hn h => ok.h0 a o (by simp) ?_, ok.f0, ok.fh, fun a o h => ?_, (ok.perm pm).cellsAt, tg⟩
  · show minusL H (Θ.map Cel.a) a = some o
    unfold minusL
    rw [if_neg hn]
    exact h
  · rcases ok.nw a o h with h' | h' | h'
    · exact .inl h'
    · have h' : minusL H (Θ.map Cel.a) a = none := h'
      unfold minusL at h'
      split at h'
      · rename_i q
        rw [← tag_a tg] at q
        obtain ⟨c, hc', e⟩ := List.mem_map.mp q
        obtain ⟨h1, _⟩ := (ok.perm pm).cellsAt.2 c hc'
        rw [e, h] at h1
        cases h1
      · exact .inr (.inl h')
    · exact .inr (.inr h')
/-- what a def with lent cells returns: the cells Θ' are there then -/
def RetC (fr : Fr) (Q : VK) (tg : List (Addr × Bool)) (out : Vp → List Cel → Prop) : Prop := ∀ p Θ', out p Θ' → Θ'.map tagC = tg → ∀ Θ'' Θx, Θ''.Perm (Θ' ++ Θx) → Rt fr Θ'' Q p
def RseC (fr : Fr) (E : XK) (tg : List (Addr × Bool)) (err : Er → List Cel → Prop) : Prop := ∀ e Θ', err e Θ' → Θ'.map tagC = tg → ∀ Θ'' Θx, Θ''.Perm (Θ' ++ Θx) → ∀ F H d us, OkF fr Θ'' F H → F d = some (.xd us) → FsOk F e.fs us → E (.ref e.C) (some d) H
theorem RetC.fine {fr' : Fr} {tg : List (Addr × Bool)} {out : Vp → List Cel → Prop} (h : RetC fr Q tg out) (l : FrLe fr fr') : RetC fr' Q tg out := fun p Θ' ho ht Θ'' Θx pm => (h p Θ' ho ht Θ'' Θx pm).fine l
theorem RseC.fine {fr' : Fr} {E : XK} {tg : List (Addr × Bool)} {err : Er → List Cel → Prop} (h : RseC fr E tg err) (l : FrLe fr fr') : RseC fr' E tg err := fun e Θ' he ht Θ'' Θx pm F H d us ok => h e Θ' he ht Θ'' Θx pm F H d us (ok.le l)
end
section
variable {P : Program} {w : World} {K : PySem.W.Frag} {mg : Str → Option Value} {base : Heap} {x m qual : Str} {C : Addr} {st : Stmt} {N ps : List Str} {k : Nat} {pre : PreC}
theorem Src.okC (F : Src K mg x st ps) (S : FnScope N ps (defScope st)) (len : ∀ qs Θ out err, pre qs Θ out err → qs.length = ps.length ∧ ∀ c ∈ Θ, c.own = true)
    (hbody : ∀ (f : Addr) (cdv : Value) (A : Around) (outer : List Env) (s : Shared) (H : Hp) (E : XK) (qs : List Vp) (Θ : List Cel) (out : Vp → List Cel → Prop) (err : Er → List Cel → Prop), Room k (A.deeper (envOfC x (defScope st) s.heap.objs.size f cdv)) → pre qs Θ out err →
      ∃ t, PSs (cxOf CX0 P w K mg base N x (defScope st) f cdv A outer s H E).nox (defBody st) t ∧ ∀ fr Q, RetC fr Q (Θ.map tagC) out → Kn fr (envOf N qs) Θ (t { nx := fun _ H' => Q .non H', rt := Q })) : Def P w K mg base CX0 (k + 1) x ps (spC pre) := by
  refine F.ok S (fun vs H Q E h => ?_) (fun f cdv A outer s H vs Q E hr h => ?_)
  · obtain ⟨F, qs, Θ, out, err, _, _, h2, h3, _⟩ := h
    rw [← Paired.len h2]
    exact (len _ _ _ _ h3).1
  · obtain ⟨F, qs, Θ, out, err, h1, hc, h2, h3, h4, h5⟩ := h
    obtain ⟨t, ht, hk⟩ := hbody f cdv A outer s H E qs Θ out err hr h3
    exact ⟨t, ht, hk ⟨F, minusL H (Θ.map Cel.a), []⟩ Q (fun p Θ' ho tg Θ'' Θx pm v F' H' ok hv => h4 p Θ' ho v F' H' (eff_of hc ok pm tg) hv) _ F H (okf_lent h1 hc (len _ _ _ _ h3).2) (env_start h2)⟩
theorem SrcM.okC (F : SrcM K C m qual st ps) (S : FnScope N ps (defScope st)) (len : ∀ qs Θ out err, pre qs Θ out err → qs.length = ps.length ∧ ∀ c ∈ Θ, c.own = true)
    (hbody : ∀ (f : Addr) (cdv : Value) (A : Around) (outer : List Env) (s : Shared) (H : Hp) (E : XK) (qs : List Vp) (Θ : List Cel) (out : Vp → List Cel → Prop) (err : Er → List Cel → Prop), Room k (A.deeper (envOfC qual (defScope st) s.heap.objs.size f cdv)) → pre qs Θ out err →
      ∃ t, PSs (cxOf CX0 P w K mg base N qual (defScope st) f cdv A outer s H E).nox (defBody st) t ∧ ∀ fr Q, RetC fr Q (Θ.map tagC) out → Kn fr (envOf N qs) Θ (t { nx := fun _ H' => Q .non H', rt := Q })) : DefM P w K mg base CX0 (k + 1) C m ps (spC pre) := by
  refine F.ok S (fun vs H Q E h => ?_) (fun f cdv A outer s H vs Q E hr h => ?_)
  · obtain ⟨F, qs, Θ, out, err, _, _, h2, h3, _⟩ := h
    rw [← Paired.len h2]
    exact (len _ _ _ _ h3).1
  · obtain ⟨F, qs, Θ, out, err, h1, hc, h2, h3, h4, h5⟩ := h
    obtain ⟨t, ht, hk⟩ := hbody f cdv A outer s H E qs Θ out err hr h3
    exact ⟨t, ht, hk ⟨F, minusL H (Θ.map Cel.a), []⟩ Q (fun p Θ' ho tg Θ'' Θx pm v F' H' ok hv => h4 p Θ' ho v F' H' (eff_of hc ok pm tg) hv) _ F H (okf_lent h1 hc (len _ _ _ _ h3).2) (env_start h2)⟩
end
end L2
set_option Elab.async false
set_option linter.all false
set_option maxRecDepth 100000
set_option maxHeartbeats 4000000
namespace L2
open PySem PySem.Spec PyProof.Rows PySem.HErr
def zTy (n : String) : Vp := ⟨fun _ v => v = .ty n, fun _ h => h⟩
section
variable {fr : Fr} {Γ Γ' : Gam} {Θ Θ' : List Cel} {F F' H H' : Hp} {K : Vp → List Cel → Prop} {Q : VK} {Kf : PySem.W.Frag}
theorem we_cT {n : String} (k : K (zTy n) Θ) : We fr Γ Θ (tC (.ty n)) K := we_c (fun _ => rfl) k
theorem we_cR {a : Addr} (k : K (zAt a) Θ) : We fr Γ Θ (tC (.ref a)) K := we_c (fun _ => rfl) k
def TyP (fr : Fr) (Θ : List Cel) (Kf : PySem.W.Frag) (p : Vp) (t : Value) : Prop := ∀ F H v, OkF fr Θ F H → p.p F v → TyX Kf H v t
theorem ty_L {α : Type} {r : Rep α} {xs : List α} : TyP fr Θ Kf (iz (zL r) xs) (.type "list") := fun F H v ok ⟨a, vs, h1, h2, h3⟩ => by subst h1; exact .base (.lst (ok.fh _ _ h2))
theorem ty_T {α : Type} [TNar α] {r : Rep α} {xs : List α} : TyP fr Θ Kf (iz (zT r) xs) (.type "tuple") := fun F H v ok ⟨a, vs, h1, h2, h3⟩ => by
  subst h1
  rcases h2 with h2 | ⟨_, o, h2, _⟩
  · exact .base (.tup (ok.fh _ _ h2))
  · exact .fTuple (ok.fh _ _ h2)
theorem ty_2 {α β : Type} {r : Rep α} {s : Rep β} {x : α × β} : TyP fr Θ Kf (iz (z2 r s) x) (.type "tuple") := fun F H v ok ⟨a, u, w, h1, h2, h3⟩ => by subst h1; exact .base (.tup (ok.fh _ _ h2))
theorem ty_I {n : Int} : TyP fr Θ Kf (iz zI n) (.type "int") := fun F H v ok h => by cases (show v = V.int n from h); exact .base (.int _)
theorem ty_B {n : Bool} : TyP fr Θ Kf (iz zB n) (.type "bool") := fun F H v ok h => by cases (show v = V.bl n from h); exact .base (.bl _)
theorem ty_S {n : Str} : TyP fr Θ Kf (iz zS n) (.type "str") := fun F H v ok h => by cases h.1; exact .base (.str _)
theorem cb_isi {p : Vp} {a n : String} {b : Bool} (h : TyP fr Θ Kf p (.type a)) (e : kitB a n = some b) (k : K (iz zB b) Θ) : Cbs fr Θ (rIsi Kf) [p, zTy n] K := fun F H vs ok hps Q q => by
  cases hps with
  | cons h1 hp => cases hp with
    | cons h2 hp => cases hp with
      | nil =>
        have h2 : _ = V.ty n := h2
        subst h2
        exact ⟨_, _, _, _, b, rfl, .ty _, h F H _ ok h1, kit_ty e, q.go k ok rfl⟩
theorem kit_ll : kitB "list" "list" = some true := by decide +kernel
theorem kit_tt : kitB "tuple" "tuple" = some true := by decide +kernel
theorem kit_ii : kitB "int" "int" = some true := by decide +kernel
theorem kit_ib : kitB "int" "bool" = some false := by decide +kernel
theorem kit_bb : kitB "bool" "bool" = some true := by decide +kernel
theorem kit_ss : kitB "str" "str" = some true := by decide +kernel
theorem im_t {b : Bool} {t : TT} {c : Bool} (h : b = true → Et fr Γ Θ t c) : b = true → Et fr Γ Θ t c := h
theorem im_f {b : Bool} {t : TT} {c : Bool} (h : b = false → Et fr Γ Θ t c) : b = false → Et fr Γ Θ t c := h
theorem im_tv {b : Bool} {t : TE} {p : Vp} (h : b = true → Ev fr Γ Θ t p) : b = true → Ev fr Γ Θ t p := h
theorem im_fv {b : Bool} {t : TE} {p : Vp} (h : b = false → Ev fr Γ Θ t p) : b = false → Ev fr Γ Θ t p := h
end
end L2
set_option Elab.async false
set_option linter.all false
set_option maxRecDepth 100000
set_option maxHeartbeats 4000000
namespace L2
open PySem PySem.Spec PyProof.Rows PySem.HErr
abbrev PreN := List Vp → (Vp → List Cel → Prop) → (Er → Prop) → Prop
def spN (pre : PreN) : Sp := fun vs H Q E => ∃ F ps out err, Same F H ∧ Paired (fun (p : Vp) v => p.p F v) ps vs ∧ pre ps out err ∧
  (∀ p Θn, out p Θn → ∀ v F' H', Same H H' → Same F F' → Same F' H' → Newer F H F' → CellsAt F' H' Θn → (∀ c ∈ Θn, H c.a = none ∧ c.own = true) → p.p F' v → Q v H') ∧ PErs F H E err
section
variable {fr : Fr} {Γ Γ' : Gam} {Θ Θ' Θn : List Cel} {F F' H H' : Hp} {K : Vp → List Cel → Prop} {Q : VK}
theorem OkF.more (k : OkF fr Θ F H) (hh : Same H H') (ff : Same F F') (fh : Same F' H') (nw : Newer F H F') (ca : CellsAt F' H' Θn) (hn : ∀ c ∈ Θn, H c.a = none ∧ c.own = true) : OkF fr (Θn ++ Θ) F' H' := by
  have g := k.grow hh ff fh nw
  refine ⟨g.fh, g.f0, g.nw, g.h0, g.al, ?_, fun c hc => ?_⟩
  · rw [List.map_append, List.nodup_append]
    refine ⟨ca.1, g.nd, fun a ha b hb e => ?_⟩
    obtain ⟨c, hc, rfl⟩ := List.mem_map.mp ha
    obtain ⟨d, hd, rfl⟩ := List.mem_map.mp hb
    obtain ⟨_, ⟨o, h2, _⟩, _⟩ := k.ce d hd
    have h1 : H c.a = none := (hn c hc).1
    rw [e, h2] at h1
    cases h1
  · rcases List.mem_append.mp hc with hc | hc
    · obtain ⟨h1, h2⟩ := ca.2 c hc
      obtain ⟨h3, h4⟩ := hn c hc
      exact ⟨h1, h2, by rw [if_pos h4]; exact k.h0n h3⟩
    · exact g.ce c hc
theorem sps_N {pre : PreN} {E : L2.St → XK} {ps : List Vp} {out : Vp → List Cel → Prop} {err : Er → Prop} (hp : pre ps out err) (k : ∀ p Θn, out p Θn → K p (Θn ++ Θ)) (x : ∀ e, err e → Kr fr Γ Θ (fun cls d σ H => E σ cls d H) e) : Sps fr Γ Θ (spN pre) E ps K := fun σ F H vs ok env hps Q q =>
  ⟨F, ps, out, err, ok.fh, hps, hp, fun p Θn ho v F' H' hh ff fh nw ca hn h => q p _ (k p Θn ho) v F' H' ff (ok.more hh ff fh nw ca hn) h,
    fun e he F' H' d us hh ff fh nw hd hf => x e he σ F' H' (ok.grow hh ff fh nw) (env.mono ff) d us hd hf⟩
def RetN (fr : Fr) (Q : VK) (out : Vp → List Cel → Prop) : Prop := ∀ p Θn, out p Θn → (∀ c ∈ Θn, c.own = true) → ∀ Θ'' Θx, Θ''.Perm (Θn ++ Θx) → Rt fr Θ'' Q p
theorem RetN.fine {fr' : Fr} {out : Vp → List Cel → Prop} (h : RetN fr Q out) (l : FrLe fr fr') : RetN fr' Q out := fun p Θn ho hn Θ'' Θx pm => (h p Θn ho hn Θ'' Θx pm).fine l
end
section
variable {P : Program} {w : World} {K : PySem.W.Frag} {mg : Str → Option Value} {base : Heap} {x m qual : Str} {C : Addr} {st : Stmt} {N ps : List Str} {k : Nat} {pre : PreN}
theorem retN_of {F H : Hp} {Q : VK} {out : Vp → List Cel → Prop} (h4 : ∀ p Θn, out p Θn → ∀ v F' H', Same H H' → Same F F' → Same F' H' → Newer F H F' → CellsAt F' H' Θn → (∀ c ∈ Θn, H c.a = none ∧ c.own = true) → p.p F' v → Q v H') : RetN ⟨F, H, []⟩ Q out := fun p Θn ho hn Θ'' Θx pm v F' H' ok hv => by
  have ok2 := ok.perm pm
  obtain ⟨a, b, c, d⟩ := ok.post
  refine h4 p Θn ho v F' H' a b c d ok2.cellsAt (fun e he => ⟨?_, hn e he⟩) hv
  have := (ok2.ce e (List.mem_append_left _ he)).2.2
  rw [if_pos (hn e he)] at this
  exact this
theorem Src.okN (F : Src K mg x st ps) (S : FnScope N ps (defScope st)) (len : ∀ qs out err, pre qs out err → qs.length = ps.length)
    (hbody : ∀ (f : Addr) (cdv : Value) (A : Around) (outer : List Env) (s : Shared) (H : Hp) (E : XK) (qs : List Vp) (out : Vp → List Cel → Prop) (err : Er → Prop), Room k (A.deeper (envOfC x (defScope st) s.heap.objs.size f cdv)) → pre qs out err →
      ∃ t, PSs (cxOf CX0 P w K mg base N x (defScope st) f cdv A outer s H E).nox (defBody st) t ∧ ∀ fr Q, RetN fr Q out → Kn fr (envOf N qs) [] (t { nx := fun _ H' => Q .non H', rt := Q })) : Def P w K mg base CX0 (k + 1) x ps (spN pre) := by
  refine F.ok S (fun vs H Q E h => ?_) (fun f cdv A outer s H vs Q E hr h => ?_)
  · obtain ⟨F, qs, out, err, _, h2, h3, _⟩ := h
    rw [← Paired.len h2]
    exact len _ _ _ h3
  · obtain ⟨F, qs, out, err, h1, h2, h3, h4, h5⟩ := h
    obtain ⟨t, ht, hk⟩ := hbody f cdv A outer s H E qs out err hr h3
    exact ⟨t, ht, hk _ Q (retN_of h4) _ F H (OkF.start h1) (env_start h2)⟩
end
section
variable {fr : Fr} {Γ Γ' : Gam} {Θ Θ' Θn : List Cel} {F F' H H' : Hp} {K : Vp → List Cel → Prop} {Q : VK}
/-- the value as it stood in F0 -/
def pin (F0 : Hp) (p : Vp) : Vp := ⟨fun _ v => p.p F0 v, fun _ h => h⟩
/-- the object at a, and what it is just now -/
def zBoth (a : Addr) (q : Vp) : Vp := ⟨fun F v => v = .ref a ∧ q.p F v, fun e ⟨h1, h2⟩ => ⟨h1, q.mono e h2⟩⟩
/-- Fc: F0 and the contents of the cells Θb -/
structure Lend (fr : Fr) (Θb : List Cel) (F0 Fc : Hp) : Prop where
  s : Same F0 Fc
  f0 : Same fr.F0 F0
  nw : ∀ a o, F0 a = some o → Nwr fr.F0 fr.H0 a o
  nc : ∀ a o, Fc a = some o → (∃ o', F0 a = some o') ∨ a ∈ Θb.map Cel.a
  nd : (Θb.map Cel.a).Nodup
  ce : ∀ c ∈ Θb, F0 c.a = none ∧ (∃ o, Fc c.a = some o ∧ c.φ F0 o) ∧ c.own = true ∧ fr.H0 c.a = none
def updL (F H : Hp) (as : List Addr) : Hp := fun a => if a ∈ as then H a else F a
theorem we_varP {Θb : List Cel} {F0 Fc : Hp} {B : List Addr} {H0 : Hp} {p : Vp} {i : Nat} (hl : Lend fr Θb F0 Fc) (h : Γ[i]? = some (some (pin F0 p))) (k : K p Θ) : We ⟨Fc, H0, B⟩ Γ Θ (tVar i) K := fun σ F H ok env Q q => by
  obtain ⟨v, h1, h2⟩ := env.get h
  exact ⟨v, h1, q.go k ok (p.mono (hl.s.trans ok.f0) h2)⟩
theorem we_varB {a : Addr} {p : Vp} {i : Nat} (h : Γ[i]? = some (some (zBoth a p))) (k : K p Θ) : We fr Γ Θ (tVar i) K := fun σ F H ok env Q q => by
  obtain ⟨v, h1, h2⟩ := env.get h
  exact ⟨v, h1, q.go k ok h2.2⟩
/-- a list, lent -/
theorem Lend.lst {α : Type} {r : Rep α} {G : Addr} {xs : List α} {Θx : List Cel} {F0 Fc : Hp} (hl : Lend fr (cL G r xs :: Θx) F0 Fc) : ∀ F v, Same Fc F → (zAt G).p F0 v → (zBoth G (iz (zL r) xs)).p F v := fun F v hs hv => by
  have hv : v = .ref G := hv
  subst hv
  obtain ⟨_, ⟨o, h2, vs, rfl, h3⟩, _⟩ := hl.ce _ (.head _)
  exact ⟨rfl, G, vs, rfl, hs _ _ h2, Paired.imp2 (fun _ _ h => r.mono (hl.s.trans hs) h) h3⟩
end
end L2
set_option Elab.async false
set_option linter.all false
set_option maxRecDepth 100000
set_option maxHeartbeats 4000000
namespace L2
open PySem PySem.Spec PyProof.Rows PySem.HErr
abbrev PreB := List Vp → (Vp → Prop) → Prop
section
variable {fr : Fr} {Γ Γ' : Gam} {Θ Θ' Θn : List Cel} {F F' H H' : Hp} {K : Vp → List Cel → Prop} {Q : VK}
theorem perm_of_mem {c : Cel} (h : c ∈ Θ) : ∃ Θr, Θ.Perm ([c] ++ Θr) := by
  obtain ⟨s, t, rfl⟩ := List.append_of_mem h
  exact ⟨s ++ t, List.perm_middle⟩
def RetB (fr : Fr) (Q : VK) (b l : Addr) (o : Vp → Prop) : Prop := ∀ p, o p → ∀ Θ, cBox true b l ∈ Θ → Rt fr Θ Q p
theorem RetB.fine {fr' : Fr} {b l : Addr} {o : Vp → Prop} (h : RetB fr Q b l o) (le : FrLe fr fr') : RetB fr' Q b l o := fun p hp Θ hc => (h p hp Θ hc).fine le
end
/-- a list of two things -/
def zLp {α β : Type} (r : Rep α) (s : Rep β) : Rep (α × β) := ⟨fun F v x => ∃ a u w, v = .ref a ∧ F a = some (.lst [u, w]) ∧ r.p F u x.1 ∧ s.p F w x.2, fun e ⟨a, u, w, h1, h2, h3, h4⟩ => ⟨a, u, w, h1, e _ _ h2, r.mono e h3, s.mono e h4⟩⟩
theorem cutX_drop {α : Type} (xs : List α) (n : Nat) : cutX xs (some (n : Int)) none = xs.drop n := by
  unfold cutX
  rw [HT.sIx_none, HT.sIx_nat]
  by_cases h : n ≤ xs.length
  · rw [Nat.min_eq_left h]
    exact List.take_of_length_le (by rw [List.length_drop]; exact Nat.le_refl _)
  · rw [Nat.min_eq_right (by omega), List.drop_length, List.drop_of_length_le (by omega), List.take_nil]
theorem cutX_take {α : Type} (xs : List α) (n : Nat) : cutX xs none (some (n : Int)) = xs.take n := by
  unfold cutX
  rw [HT.sIx_none, HT.sIx_nat]
  show List.take (min n xs.length - 0) (List.drop 0 xs) = _
  rw [List.drop_zero, Nat.sub_zero, Nat.min_comm]
  by_cases h : n ≤ xs.length
  · rw [Nat.min_eq_right h]
  · rw [Nat.min_eq_left (by omega), List.take_length, List.take_of_length_le (by omega)]
end L2
set_option Elab.async false
set_option linter.all false
set_option maxRecDepth 100000
set_option maxHeartbeats 4000000
namespace L2
open PySem PySem.Spec PyProof.Rows PySem.HErr
section
variable {fr : Fr} {Γ Γ' : Gam} {Θ : List Cel} {F F' H H' : Hp} {K : Vp → List Cel → Prop} {Q : VK}
def optP {α : Type} (r : Rep α) : Option α → Vp
  | none => zNon
  | some x => iz r x
class NotNon {α : Type} (r : Rep α) : Prop where
  nn : ∀ F v x, r.p F v x → v ≠ .non
instance {α : Type} {r : Rep α} : NotNon (zL r) := ⟨fun F v x ⟨a, vs, h, _⟩ => by rw [h]; exact fun q => by cases q⟩
instance {α : Type} [TNar α] {r : Rep α} : NotNon (zT r) := ⟨fun F v x ⟨a, vs, h, _⟩ => by rw [h]; exact fun q => by cases q⟩
instance {α β : Type} {r : Rep α} {s : Rep β} : NotNon (z2 r s) := ⟨fun F v x ⟨a, u, w, h, _⟩ => by rw [h]; exact fun q => by cases q⟩
instance {α β γ : Type} {r : Rep α} {s : Rep β} {t : Rep γ} : NotNon (z3 r s t) := ⟨fun F v x ⟨a, u, w, z, h, _⟩ => by rw [h]; exact fun q => by cases q⟩
instance : NotNon zI := ⟨fun F v x h => by rw [show v = .int x from h]; exact fun q => by cases q⟩
instance : NotNon zS := ⟨fun F v x h => by rw [h.1]; exact fun q => by cases q⟩
theorem ops_isO {α : Type} {r : Rep α} [NotNon r] {o : Option α} (k : K (iz zB o.isNone) Θ) : Ops fr Θ (fun x y H Q => y = .non ∧ Q (.bl (decide (x = .non))) H) (optP r o) zNon K := fun F H v w ok hv hw Q q => by
  refine ⟨hw, q.go k ok ?_⟩
  show V.bl _ = V.bl _
  cases o with
  | none => rw [show v = .non from hv]; rfl
  | some x => rw [decide_eq_false (NotNon.nn F v x hv)]; rfl
theorem ops_notO {α : Type} {r : Rep α} [NotNon r] {o : Option α} (k : K (iz zB o.isSome) Θ) : Ops fr Θ (fun x y H Q => y = .non ∧ Q (.bl (!decide (x = .non))) H) (optP r o) zNon K := fun F H v w ok hv hw Q q => by
  refine ⟨hw, q.go k ok ?_⟩
  show V.bl _ = V.bl _
  cases o with
  | none => rw [show v = .non from hv]; rfl
  | some x => rw [decide_eq_false (NotNon.nn F v x hv)]; rfl
theorem ops_isX {α : Type} {r : Rep α} [NotNon r] {x : α} (k : K (iz zB false) Θ) : Ops fr Θ (fun x y H Q => y = .non ∧ Q (.bl (decide (x = .non))) H) (iz r x) zNon K := ops_isO (o := some x) k
theorem ops_notX {α : Type} {r : Rep α} [NotNon r] {x : α} (k : K (iz zB true) Θ) : Ops fr Θ (fun x y H Q => y = .non ∧ Q (.bl (!decide (x = .non))) H) (iz r x) zNon K := ops_notO (o := some x) k
theorem ops_isN (k : K (iz zB true) Θ) : Ops fr Θ (fun x y H Q => y = .non ∧ Q (.bl (decide (x = .non))) H) zNon zNon K := ops_isO (r := zI) (o := none) k
theorem ops_notN (k : K (iz zB false) Θ) : Ops fr Θ (fun x y H Q => y = .non ∧ Q (.bl (!decide (x = .non))) H) zNon zNon K := ops_notO (r := zI) (o := none) k
end
end L2
set_option Elab.async false
set_option linter.all false
set_option maxRecDepth 100000
set_option maxHeartbeats 4000000
namespace L2
open PySem PySem.Spec PyProof.Rows PySem.HErr
section
variable {P : Program} {w : World} {A : Around} {E : Value → Shared → Prop} {s : Shared} {K : PySem.W.Frag} {a C f dx : Addr} {mA : Str → Option Value} {name : Str} {args : List Value}
theorem bindS (X : K.In s.heap) (hm : Meth K C name f) {self : Value} {Q : Value × List Value → Shared → Prop} (h : Q (.ref f, [self]) s) : wpAny (model P w) A (bindSpecial (.ref f) self) Q E s :=
  (PySem.W.bind_fn X self (beq_iff_eq.mp hm.fn)).here h
theorem special_own {Q : Option Value → Shared → Prop} (X : K.In s.heap) (I : ObjM s.heap a dx C mA) (hm : Meth K C name f)
    (hc : wpAny (model P w) A (call (.ref f) (.ref a :: args)) (fun v s' => Q (some v) s') E s) : wpAny (model P w) A (callSpecial? (.ref a) name args) Q E s := by
  obtain ⟨od, J, _⟩ := I.look
  unfold callSpecial? specialOf
  refine wpAny_bind (wpAny_bind (J.type.here ((PySem.W.looks_findIn X hm.at_).here ?_)))
  refine wpAny_holding ?_
  refine wpAny_bind (bindS X hm ?_)
  exact wpAny_bind (wpAny_mono hc (fun v s' h => wpAny_pure h) fun _ _ z => z)
theorem contains_own {x : Value} {Q : Bool → Shared → Prop} (X : K.In s.heap) (I : ObjM s.heap a dx C mA) (hm : Meth K C "__contains__" f)
    (hc : wpAny (model P w) A (call (.ref f) [.ref a, x]) (fun v s' => ∃ b, v = .bool b ∧ Q b s') E s) : wpAny (model P w) A (contains (.ref a) x) Q E s := by
  obtain ⟨od, J, _⟩ := I.look
  unfold contains
  refine wpAny_holding ?_
  rw [stdlibNamesSay?_ref]
  dsimp only
  unfold specialOf
  refine wpAny_bind (wpAny_bind (J.type.here ((PySem.W.looks_findIn X hm.at_).here ?_)))
  rw [if_neg (by simp)]
  unfold callSpecialUnlessNone? specialOf
  refine wpAny_bind (wpAny_bind (wpAny_bind (J.type.here ((PySem.W.looks_findIn X hm.at_).here ?_))))
  refine wpAny_holding ?_
  refine wpAny_bind (bindS X hm ?_)
  dsimp only
  rw [if_neg (by simp)]
  refine wpAny_bind (wpAny_mono hc (fun v s' ⟨b, e, h⟩ => wpAny_pure ?_) fun _ _ z => z)
  subst e
  exact wpAny_pure h
end
/-- y in p, p an instance of the class at C whose __contains__ says sp -/
def tInO (C : Addr) (sp : Sp) (E : St → XK) (ty tp : TE) : TE := fun σ H Q => ty σ H fun y H1 => tp σ H1 fun x H2 => ∃ a dx fs, x = .ref a ∧ H2 a = some (.ins C dx fs) ∧ sp [.ref a, y] H2 (fun v H3 => ∃ b, v = .bl b ∧ Q (.bl b) H3) (E σ)
section
variable {X : Cx} {CX : CXT} {k : Nat} {C : Addr} {ps : List Str} {sp : Sp} {E : St → XK} {i o : Expr} {ty tp : TE}
theorem pc_inO (D : DefM X.prog X.w X.K X.mg X.base CX k C "__contains__" ps sp) (hr : Room k X.A) (hx : ∀ σ, PassesAt CX X σ (E σ)) (hi : PE X i ty) (ho : PE X o tp) : PC X .In i o (tInO C sp E ty tp) := by
  obtain ⟨f, fd, hlk, hm, hb, F⟩ := D.ex
  refine ⟨fun pins s σ H Q I h => ?_⟩
  refine thn (hi.run pins s σ H _ I h) fun iv s1 ⟨y, H1, I1, ry, q1⟩ => thn (ho.run pins s1 σ H1 _ I1 q1) fun u s2 ⟨x, H2, I2, rx, a, dx, fs, ex, ea, q2⟩ => ?_
  subst ex
  obtain rfl : u = Value.ref a := rx
  obtain ⟨mA, O, _⟩ := ins_get I2.hok ea
  unfold compareOp
  refine wpAny_bind (contains_own I2.kIn O hm (wpAny_mono (run_fnS (us := [.ref a, iv]) (vs := [.ref a, y]) F hr hb (hx σ) I2 (.cons rfl (.cons ry .nil)) q2) (fun v s3 ⟨z, H3, I3, rz, b, e, q3⟩ => ?_) fun _ _ z => z))
  subst e
  cases rz
  exact ⟨b, rfl, wpAny_pure ⟨.bl b, H3, I3, rfl, q3⟩⟩
end
section
variable {P : Program} {w : World} {A : Around} {E : Value → Shared → Prop} {s : Shared} {K : PySem.W.Frag} {a C f dx : Addr} {mA : Str → Option Value} {name : Str} {args : List Value}
theorem len_ownK {Q : Value → Shared → Prop} (X : K.In s.heap) (I : ObjM s.heap a dx C mA) (hm : Meth K C "__len__" f)
    (hcall : wpAny (model P w) A.in1 (call (.ref f) [.ref a]) (fun r s' => ∃ n u, r = .int n u ∧ 0 ≤ n ∧ n < 2 ^ 63 ∧ Q (.int n s'.toks) { s' with toks := s'.toks + 1 }) E s) :
    wpAny (model P w) A (call (.builtin "len") [.ref a]) Q E s := by
  refine Calls.call_function_entry kind_len plain_len entry_len (args_len1 _) ?_
  unfold Builtin.«len»
  refine wpAny_bind (wpAny_pure ?_)
  refine wpAny_bind (m := callSpecial? (.ref a) (Str.ofString "__len__")) (special_own X I hm (wpAny_mono hcall (fun r s' hr => ?_) fun _ _ y => y))
  obtain ⟨n, u, rfl, h0, h1, hq⟩ := hr
  refine wpAny_bind (wpAny_holding (wpAny_pure ?_))
  refine wpAny_bind (wpAny_letGo ?_)
  show wpAny _ _ (if n < 0 then _ else _) _ _ _
  rw [if_neg (by omega)]
  show wpAny _ _ (if n ≥ 2 ^ 63 then _ else _) _ _ _
  rw [if_neg (by omega)]
  exact wpAny_bind (wpAny_mkInt (wpAny_pure ⟨_, rfl, hq⟩))
end
/-- o[i], o an instance of the class at C whose __getitem__ says sp -/
def tIxO (C : Addr) (sp : Sp) (E : St → XK) (tp ty : TE) : TE := fun σ H Q => tp σ H fun x H1 => ty σ H1 fun y H2 => ∃ a dx fs, x = .ref a ∧ H2 a = some (.ins C dx fs) ∧ sp [.ref a, y] H2 Q (E σ)
section
variable {X : Cx} {CX : CXT} {k : Nat} {C : Addr} {ps : List Str} {sp : Sp} {E : St → XK} {i o : Expr} {ty tp : TE} {x : Str} {p pos : Pos}
theorem run_fnS1 {pins : List (Addr × Obj)} {σ : St} {H : Hp} {s : Shared} {Q : VK} {f : Addr} {fd : FuncData} {us : List Value} {vs : List V} (F : FnOk X.prog X.w X.K X.mg X.base CX k f fd ps sp) (hr : Room (k + 1) X.A) (hb : Binds X.K fd ps []) (hx : PassesAt CX X σ (E σ))
    (I : Inv X pins σ H s) (r : Vals vs us) (h : sp vs H Q (E σ)) : wpAny (model X.prog X.w) X.A.in1 (call (.ref f) us) (EP X pins σ Q) X.xe s := by
  have hl : us.length = ps.length := by rw [← r.length]; exact F.len _ _ _ _ h
  have b := hb s us I.kIn (by rw [List.append_nil]; exact hl)
  rw [List.append_nil] at b
  refine wpAny_call (codeAny_mono (F.run X.A.in1 X.stack s H ⟨us, []⟩ us vs Q (E σ) hr.in1 I.env0.in1 b r h) fun r s' hq => ?_)
  cases r with
  | error e => exact hx pins H s e s' I hq
  | ok fl =>
    cases fl with
    | ret u => exact I.after hq
    | next => exact False.elim hq
    | brk => exact False.elim hq
    | cont => exact False.elim hq
end
def rLenO (C : Addr) (sp : Sp) (E : XK) : List V → Hp → VK → Prop := fun xs H Q => ∃ a dx fs, xs = [.ref a] ∧ H a = some (.ins C dx fs) ∧ sp [.ref a] H (fun v H2 => ∃ n : Int, v = .int n ∧ 0 ≤ n ∧ n < 2 ^ 63 ∧ Q (.int n) H2) E
theorem call_lenO {X : Cx} {CX : CXT} {k : Nat} {C : Addr} {ps : List Str} {sp : Sp} {E : XK} (D : DefM X.prog X.w X.K X.mg X.base CX k C "__len__" ps sp) (hr : Room (k + 1) X.A) (hx : ∀ σ, PassesAt CX X σ E) : CallR X (.builtin "len") (rLenO C sp E) := by
  obtain ⟨f, fd, hlk, hm, hb, F⟩ := D.ex
  intro pins s σ H xs us Q I r h
  obtain ⟨a, dx, fs, rfl, ea, q⟩ := h
  obtain ⟨u, rfl, ru⟩ := vals1 r
  cases ru
  obtain ⟨mA, O, _⟩ := ins_get I.hok ea
  refine len_ownK I.kIn O hm (wpAny_mono (run_fnS1 (E := fun _ => E) (us := [.ref a]) (vs := [.ref a]) F hr hb (hx σ) I (.cons rfl .nil) q) (fun v s3 ⟨z, H3, I3, rz, n, e, h0, h1, q3⟩ => ?_) fun _ _ z => z)
  subst e
  obtain ⟨t, rfl⟩ := rz
  exact ⟨n, t, rfl, h0, h1, .int n, H3, I3.tok _, ⟨_, rfl⟩, q3⟩
/-- its object is a def -/
def GetFn (K : PySem.W.Frag) (C : Addr) : Prop := ∀ f, PySem.W.findIn K (.ref C) "__getitem__" = some (some (.ref f)) → PySem.W.fnIn K f = true
/-- the element of a subscription of an own object -/
def OwnSl (i : Expr) : Prop := ∀ x iv, subscripted i true (.ref x) iv = runValue (.builtin "lifetime.subscript" ⟨[.ref x, iv], []⟩)
theorem pe_ixO {X : Cx} {CX : CXT} {k : Nat} {C : Addr} {ps : List Str} {sp : Sp} {E : St → XK} {i o : Expr} {ty tp : TE} {pos : Pos} (D : DefM X.prog X.w X.K X.mg X.base CX k C "__getitem__" ps sp) (gf : GetFn X.K C) (hr : Room (k + 1) X.A) (hx : ∀ σ, PassesAt CX X σ (E σ)) (ho : PE X o tp) (hi : PE X i ty) (hs : OwnSl i) : PE X (.Subscript o i pos) (tIxO C sp E tp ty) := by
  obtain ⟨f, fd, hlk, hm, hb, F⟩ := D.ex
  refine ⟨fun pins s σ H Q I h => ?_⟩
  refine Subscript_ (thn (ho.run pins s σ H _ I h) fun u s1 ⟨x, H1, I1, rx, q1⟩ => thn (hi.run pins s1 σ H1 _ I1 q1) fun iv s2 ⟨y, H2, I2, ry, a, dx, fs, ex, ea, q2⟩ => ?_)
  subst ex
  obtain rfl : u = Value.ref a := rx
  obtain ⟨mA, O, _⟩ := ins_get I2.hok ea
  obtain ⟨od, J, _⟩ := O.look
  have run := run_fnS1 (us := [.ref a, iv]) (vs := [.ref a, y]) F hr hb (hx σ) I2 (.cons rfl (.cons ry .nil)) q2
  have hf := gf f hm.at_
  unfold PySem.W.fnIn at hf
  split at hf
  · rename_i e
    unfold subscriptTail getitemInPython
    refine wpAny_bind (wpAny_bind (wpAny_bind (J.type.here ((PySem.W.looks_findIn I2.kIn hm.at_).here ?_))))
    dsimp only
    refine wpAny_bind (wpAny_load (I2.kIn _ _ e) (wpAny_pure ?_))
    dsimp only
    rw [hs a iv]
    refine wpAny_bind (wpAny_runValue (codeAny_builtin PySem.W.entry_sub ?_))
    unfold Builtin.«lifetime.subscript»
    refine wpAny_bind (special_own I2.kIn O hm (wpAny_mono run (fun v s' z => ?_) fun _ _ z => z))
    refine wpAny_pure ?_
    show wpAny (model X.prog X.w) X.A (letTemporaryGo o (.ref a) v >>= fun _ => pure v) (EP X pins σ Q) X.xe s'
    exact wpAny_bind (wpAny_letTemporaryGo (wpAny_pure z))
  · cases hf
end L2
set_option Elab.async false
set_option linter.all false
set_option maxRecDepth 100000
set_option maxHeartbeats 4000000
namespace L2
open PySem PySem.Spec PyProof.Rows PySem.HErr
/-- an instance of the class at C -/
def InsC (fr : Fr) (Θ : List Cel) (p : Vp) (C : Addr) : Prop := ∀ F H v, OkF fr Θ F H → p.p F v → ∃ a dx fs, v = .ref a ∧ H a = some (.ins C dx fs)
section
variable {fr : Fr} {Γ Γ' : Gam} {Θ : List Cel} {F F' H H' : Hp} {K : Vp → List Cel → Prop} {Q : VK} {C : Addr} {sp : Sp} {E : L2.St → XK} {ta tb : TE}
theorem we_inO (w : We fr Γ Θ ta fun q Θ1 => We fr Γ Θ1 tb fun p Θ2 => InsC fr Θ2 p C ∧ Sps fr Γ Θ2 sp E [p, q] fun r Θ3 => ∃ b, r = iz zB b ∧ K (iz zB b) Θ3) : We fr Γ Θ (tInO C sp E ta tb) K := fun σ F H ok env Q k =>
  w σ F H ok env _ fun q Θ1 w1 y F1 H1 s1 ok1 hy => w1 σ F1 H1 ok1 (env.mono s1) _ fun p Θ2 ⟨ic, w2⟩ x F2 H2 s2 ok2 hx => by
    obtain ⟨a, dx, fs, rfl, h2⟩ := ic F2 H2 x ok2 hx
    exact ⟨a, dx, fs, rfl, h2, w2 σ F2 H2 _ ok2 ((env.mono s1).mono s2) (.cons hx (.cons (q.mono s2 hy) .nil)) _ fun r Θ3 ⟨b, e, kk⟩ v F3 H3 s3 ok3 hv => by
      subst e
      have hv : v = .bl b := hv
      exact ⟨b, hv, k _ Θ3 kk _ F3 H3 ((s1.trans s2).trans s3) ok3 rfl⟩⟩
theorem we_ixO (w : We fr Γ Θ ta fun p Θ1 => We fr Γ Θ1 tb fun q Θ2 => InsC fr Θ2 p C ∧ Sps fr Γ Θ2 sp E [p, q] K) : We fr Γ Θ (tIxO C sp E ta tb) K := fun σ F H ok env Q k =>
  w σ F H ok env _ fun p Θ1 w1 x F1 H1 s1 ok1 hx => w1 σ F1 H1 ok1 (env.mono s1) _ fun q Θ2 ⟨ic, w2⟩ y F2 H2 s2 ok2 hy => by
    have hx2 := p.mono s2 hx
    obtain ⟨a, dx, fs, rfl, h2⟩ := ic F2 H2 x ok2 hx2
    exact ⟨a, dx, fs, rfl, h2, w2 σ F2 H2 _ ok2 ((env.mono s1).mono s2) (.cons hx2 (.cons hy .nil)) _ (k.mono (s1.trans s2))⟩
theorem cb_lenO {E : XK} {p : Vp} (ic : InsC fr Θ p C) (w : Sps fr Γ Θ sp (fun _ => E) [p] fun r Θ3 => ∃ n : Int, r = iz zI n ∧ 0 ≤ n ∧ n < 2 ^ 63 ∧ K (iz zI n) Θ3) (hg : ∃ σ, ∀ F H, OkF fr Θ F H → EnvF Γ σ F) : Cbs fr Θ (rLenO C sp E) [p] K := fun F H vs ok hps Q k => by
  cases hps with
  | cons h1 hp => cases hp with
    | nil =>
      obtain ⟨σ, hσ⟩ := hg
      obtain ⟨a, dx, fs, rfl, h2⟩ := ic F H _ ok h1
      exact ⟨a, dx, fs, rfl, h2, w σ F H _ ok (hσ F H ok) (.cons h1 .nil) _ fun r Θ3 ⟨n, e, n0, n1, kk⟩ v F3 H3 s3 ok3 hv => by
        subst e
        have hv : v = .int n := hv
        exact ⟨n, hv, n0, n1, k _ Θ3 kk _ F3 H3 s3 ok3 rfl⟩⟩
end
section
variable {fr : Fr} {Γ Γ' : Gam} {Θ : List Cel} {F F' H H' : Hp} {K : Vp → List Cel → Prop} {Q : VK}
theorem kpt_truth {X : Cx} {Kf : PySem.W.Frag} {a : Expr} {ta : TE} (ha : PE X a ta) (he : ∀ whole, isTrue a X.env whole = (do let v ← whole; standAt a.pos; holding [v] (truthy v))) (h : X.K = Kf := by rfl) : PT X a (tTru Kf ta) := h ▸ pt_truth ha he
/-- a value's truth -/
def TruP (fr : Fr) (Θ : List Cel) (Kf : PySem.W.Frag) (p : Vp) (b : Bool) : Prop := ∀ F H v, OkF fr Θ F H → p.p F v → TruV Kf v H b
theorem wt_tru {Kf : PySem.W.Frag} {t : TE} {Kb' : Bool → List Cel → Prop} (w : We fr Γ Θ t fun p Θ1 => ∃ b, TruP fr Θ1 Kf p b ∧ Kb' b Θ1) : Wt fr Γ Θ (tTru Kf t) Kb' := fun σ F H ok env Q q =>
  w σ F H ok env _ fun p Θ1 ⟨b, ht, kk⟩ v F1 H1 s1 ok1 hp => ⟨b, ht F1 H1 v ok1 hp, q b Θ1 kk F1 H1 s1 ok1⟩
theorem emp_len {α β : Type} {R : α → β → Prop} {l : List α} {m : List β} (h : Paired R l m) : l.isEmpty = m.isEmpty := by cases h <;> rfl
theorem tru_L {Kf : PySem.W.Frag} {α : Type} {r : Rep α} {xs : List α} : TruP fr Θ Kf (iz (zL r) xs) (!xs.isEmpty) := fun F H v ok ⟨a, vs, h1, h2, h3⟩ => by
  subst h1
  exact .inl ⟨vs, SqL.of (ok.fh _ _ h2), by rw [emp_len h3]⟩
end
end L2
set_option Elab.async false
set_option linter.all false
set_option maxRecDepth 100000
set_option maxHeartbeats 4000000
namespace L2
open PySem PySem.Spec PyProof.Rows PySem.HErr
abbrev big : Nat := 100000
theorem big_line {n : Nat} (h : n ≤ big) : n ≤ sizeLine := Nat.le_trans h (by unfold sizeLine; decide)
theorem big_lt {n : Nat} (h : n ≤ big) : n < sizeLine := Nat.lt_of_le_of_lt h (by unfold sizeLine; decide)
inductive EK where
  | tooMany | badWord | double | badNumber | empty | unknown | inUse | badState | notReady | notSound | badPair | badText | noUndo
  deriving DecidableEq
inductive HE where
  | tooMany (kind : Str) (limit : Int)
  | badWord (w : Str)
  | double (n : Str)
  | badNumber (n : Int)
  | empty (n : Str)
  | unknown (n : Str)
  | inUse (n : Str)
  | badState (ns : List Int)
  | notReady (s p : Str) (i : Int)
  | notSound (d : PyData)
  | badPair (n : Str)
  | badText (n : Int)
  | noUndo
def HE.k : HE → EK
  | .tooMany _ _ => .tooMany
  | .badWord _ => .badWord
  | .double _ => .double
  | .badNumber _ => .badNumber
  | .empty _ => .empty
  | .unknown _ => .unknown
  | .inUse _ => .inUse
  | .badState _ => .badState
  | .notReady _ _ _ => .notReady
  | .notSound _ => .notSound
  | .badPair _ => .badPair
  | .badText _ => .badText
  | .noUndo => .noUndo
/-- what is wanted: of the result, of an error -/
abbrev DM (β : Type) := (β → Prop) → (HE → Prop) → Prop
def noX : HE → Prop := fun _ => False
def ifD (c : Bool) (A B : Prop) : Prop := (c = true → A) ∧ (c = false → B)
def andD (c : Bool) (f : (Bool → Prop) → Prop) (k : Bool → Prop) : Prop := (c = true → f k) ∧ (c = false → k false)
def orD (c : Bool) (f : (Bool → Prop) → Prop) (k : Bool → Prop) : Prop := (c = true → k true) ∧ (c = false → f k)
def joinD {S : Type} (f : (S → Prop) → Prop) (k : S → Prop) : Prop := f k
def forD {α S : Type} : List α → S → (α → S → (S → Prop) → (S → Prop) → Prop) → (S → Prop) → Prop
  | [], s, _, after => after s
  | x :: xs, s, body, after => body x s (fun s' => forD xs s' body after) after
def mapD {α β : Type} : List α → List β → (α → (β → Prop) → Prop) → (List β → Prop) → Prop
  | [], acc, _, k => k acc
  | x :: xs, acc, f, k => f x fun y => mapD xs (acc ++ [y]) f k
def compD {α β : Type} : List α → List β → (α → (Option β → Prop) → Prop) → (List β → Prop) → Prop
  | [], acc, _, k => k acc
  | x :: xs, acc, f, k => f x fun o => compD xs (acc ++ o.toList) f k
def Vp.Le (p q : Vp) : Prop := ∀ F v, p.p F v → q.p F v
theorem Vp.Le.refl (p : Vp) : p.Le p := fun _ _ h => h
def yN : Rep Unit := ⟨fun _ v _ => v = .non, fun _ h => h⟩
def yS : Rep Str := ⟨fun F v x => zS.p F v x ∧ x.length ≤ big, fun e h => ⟨zS.mono e h.1, h.2⟩⟩
def yL {α : Type} (r : Rep α) : Rep (List α) := ⟨fun F v x => (zL r).p F v x ∧ x.length ≤ big, fun e h => ⟨(zL r).mono e h.1, h.2⟩⟩
def yT {α : Type} [TNar α] (r : Rep α) : Rep (List α) := ⟨fun F v x => (zT r).p F v x ∧ x.length ≤ big, fun e h => ⟨(zT r).mono e h.1, h.2⟩⟩
def yD {α : Type} (r : Rep α) : Rep (List (Str × α)) := ⟨fun F v x => (zD r).p F v x ∧ x.length ≤ big, fun e h => ⟨(zD r).mono e h.1, h.2⟩⟩
/-- None or a thing -/
def yO {α : Type} (r : Rep α) : Rep (Option α) := ⟨fun F v x => match x with | none => v = .non | some y => r.p F v y, fun {F F' v x} e h => by
  cases x with
  | none => exact h
  | some y => exact r.mono e h⟩
mutual
def xp (F : Hp) : PyData → V → Prop
  | .none, v => v = .non
  | .int i, v => v = .int i
  | .str x, v => v = .str x ∧ Asc x ∧ x.length ≤ big
  | .list ds, v => ∃ a vs, v = .ref a ∧ F a = some (.lst vs) ∧ ds.length ≤ big ∧ xpAll F ds vs
  | .tuple ds, v => ∃ a vs, v = .ref a ∧ TupB (!isSDs ds) F a vs ∧ ds.length ≤ big ∧ xpAll F ds vs
  | .bool _, _ => False
  | .dict _, _ => False
def xpAll (F : Hp) : List PyData → List V → Prop
  | [], vs => vs = []
  | d :: ds, vs => ∃ v r, vs = v :: r ∧ xp F d v ∧ xpAll F ds r
end
mutual
theorem xp_mono {F F' : Hp} (e : Same F F') : ∀ (d : PyData) (v : V), xp F d v → xp F' d v
  | .none, _, h => by simp only [xp] at h ⊢; exact h
  | .int _, _, h => by simp only [xp] at h ⊢; exact h
  | .str _, _, h => by simp only [xp] at h ⊢; exact h
  | .bool _, _, h => by simp only [xp] at h
  | .dict _, _, h => by simp only [xp] at h
  | .list ds, _, h => by
    simp only [xp] at h ⊢
    obtain ⟨a, vs, h1, h2, h3, h4⟩ := h
    exact ⟨a, vs, h1, e _ _ h2, h3, xpAll_mono e ds vs h4⟩
  | .tuple ds, _, h => by
    simp only [xp] at h ⊢
    obtain ⟨a, vs, h1, h2, h3, h4⟩ := h
    exact ⟨a, vs, h1, h2.mono e, h3, xpAll_mono e ds vs h4⟩
theorem xpAll_mono {F F' : Hp} (e : Same F F') : ∀ (ds : List PyData) (vs : List V), xpAll F ds vs → xpAll F' ds vs
  | [], _, h => by simp only [xpAll] at h ⊢; exact h
  | d :: ds, _, h => by
    simp only [xpAll] at h ⊢
    obtain ⟨v, r, h1, h2, h3⟩ := h
    exact ⟨v, r, h1, xp_mono e d v h2, xpAll_mono e ds r h3⟩
end
def yX : Rep PyData := ⟨fun F v d => xp F d v ∧ d.depth ≤ 60, fun e h => ⟨xp_mono e _ _ h.1, h.2⟩⟩
/-- lists and tuples of a fixed form -/
def zL3 {α β γ : Type} (r : Rep α) (s : Rep β) (t : Rep γ) : Rep (α × β × γ) := ⟨fun F v x => ∃ a u w z, v = .ref a ∧ F a = some (.lst [u, w, z]) ∧ r.p F u x.1 ∧ s.p F w x.2.1 ∧ t.p F z x.2.2, fun e ⟨a, u, w, z, h1, h2, h3, h4, h5⟩ => ⟨a, u, w, z, h1, e _ _ h2, r.mono e h3, s.mono e h4, t.mono e h5⟩⟩
def z4 {α β γ δ : Type} (r : Rep α) (s : Rep β) (t : Rep γ) (u : Rep δ) : Rep (α × β × γ × δ) := ⟨fun F v x => ∃ a v1 v2 v3 v4, v = .ref a ∧ F a = some (.tup [v1, v2, v3, v4]) ∧ r.p F v1 x.1 ∧ s.p F v2 x.2.1 ∧ t.p F v3 x.2.2.1 ∧ u.p F v4 x.2.2.2, fun e ⟨a, v1, v2, v3, v4, h1, h2, h3, h4, h5, h6⟩ => ⟨a, v1, v2, v3, v4, h1, e _ _ h2, r.mono e h3, s.mono e h4, t.mono e h5, u.mono e h6⟩⟩
def z5 {α β γ δ ε : Type} (r : Rep α) (s : Rep β) (t : Rep γ) (u : Rep δ) (w : Rep ε) : Rep (α × β × γ × δ × ε) := ⟨fun F v x => ∃ a v1 v2 v3 v4 v5, v = .ref a ∧ F a = some (.tup [v1, v2, v3, v4, v5]) ∧ r.p F v1 x.1 ∧ s.p F v2 x.2.1 ∧ t.p F v3 x.2.2.1 ∧ u.p F v4 x.2.2.2.1 ∧ w.p F v5 x.2.2.2.2, fun e ⟨a, v1, v2, v3, v4, v5, h1, h2, h3, h4, h5, h6, h7⟩ => ⟨a, v1, v2, v3, v4, v5, h1, e _ _ h2, r.mono e h3, s.mono e h4, t.mono e h5, u.mono e h6, w.mono e h7⟩⟩
def z1 {α : Type} (r : Rep α) : Rep α := ⟨fun F v x => ∃ a v1, v = .ref a ∧ F a = some (.tup [v1]) ∧ r.p F v1 x, fun e ⟨a, v1, h1, h2, h3⟩ => ⟨a, v1, h1, e _ _ h2, r.mono e h3⟩⟩
/-- a list of one's own, of bounded size -/
def cY {α : Type} (a : Addr) (r : Rep α) (xs : List α) : Cel := ⟨a, true, fun F o => (∃ vs, o = .lst vs ∧ PVs r F vs xs) ∧ xs.length ≤ big, fun e ⟨⟨vs, h1, h2⟩, h3⟩ => ⟨⟨vs, h1, Paired.imp2 (fun _ _ h => r.mono e h) h2⟩, h3⟩, fun h e => by subst e; simp at h⟩
theorem le_yS {z : Str} (h : z.length ≤ big) : (iz zS z).Le (iz yS z) := fun _ _ q => ⟨q, h⟩
theorem le_zS {z : Str} : (iz yS z).Le (iz zS z) := fun _ _ q => q.1
theorem le_yL {α : Type} {r : Rep α} {xs : List α} (h : xs.length ≤ big) : (iz (zL r) xs).Le (iz (yL r) xs) := fun _ _ q => ⟨q, h⟩
theorem le_zL {α : Type} {r : Rep α} {xs : List α} : (iz (yL r) xs).Le (iz (zL r) xs) := fun _ _ q => q.1
section
variable {fr : Fr} {Γ Γ' : Gam} {Θ Θ' : List Cel} {F F' H H' : Hp} {K : Vp → List Cel → Prop} {Q : VK}
theorem Kq.conv (h : Kq fr F K Q) : Kq fr F (fun p Θ1 => ∃ q, p.Le q ∧ K q Θ1) Q := fun p Θ' ⟨q, l, k⟩ v F' H' s ok hp => h q Θ' k v F' H' s ok (l _ _ hp)
theorem We.conv {t : TE} (w : We fr Γ Θ t fun p Θ1 => ∃ q, p.Le q ∧ K q Θ1) : We fr Γ Θ t K := fun σ F H ok env Q q => w σ F H ok env Q q.conv
theorem Ops.conv {r : R2} {p q : Vp} (w : Ops fr Θ r p q fun p Θ1 => ∃ q, p.Le q ∧ K q Θ1) : Ops fr Θ r p q K := fun F H v w' ok h1 h2 Q k => w F H v w' ok h1 h2 Q k.conv
theorem Cbs.conv {r : List V → Hp → VK → Prop} {ps : List Vp} (w : Cbs fr Θ r ps fun p Θ1 => ∃ q, p.Le q ∧ K q Θ1) : Cbs fr Θ r ps K := fun F H vs ok h1 Q k => w F H vs ok h1 Q k.conv
theorem Mts.conv {r : V → List V → Hp → VK → Prop} {p : Vp} {ps : List Vp} (w : Mts fr Θ r p ps fun p Θ1 => ∃ q, p.Le q ∧ K q Θ1) : Mts fr Θ r p ps K := fun F H v vs ok h1 h2 Q k => w F H v vs ok h1 h2 Q k.conv
theorem Sls.conv {r : V → Option Int → Option Int → Hp → VK → Prop} {p : Vp} {lo hi : Option Int} (w : Sls fr Θ r p lo hi fun p Θ1 => ∃ q, p.Le q ∧ K q Θ1) : Sls fr Θ r p lo hi K := fun F H v ok h1 Q k => w F H v ok h1 Q k.conv
theorem Ops.le {r : R2} {p q p' q' : Vp} (w : Ops fr Θ r p' q' K) (h1 : p.Le p') (h2 : q.Le q') : Ops fr Θ r p q K := fun F H v w' ok a b Q k => w F H v w' ok (h1 _ _ a) (h2 _ _ b) Q k
theorem Sls.le {r : V → Option Int → Option Int → Hp → VK → Prop} {p p' : Vp} {lo hi : Option Int} (w : Sls fr Θ r p' lo hi K) (h : p.Le p') : Sls fr Θ r p lo hi K := fun F H v ok a Q k => w F H v ok (h _ _ a) Q k
/-- a fact that the value tells -/
theorem Ops.tell {r : R2} {p q : Vp} {A : Prop} (h : ∀ F v, p.p F v → A) (w : A → Ops fr Θ r p q K) : Ops fr Θ r p q K := fun F H v w' ok a b Q k => w (h _ _ a) F H v w' ok a b Q k
theorem Cbs.tell {r : List V → Hp → VK → Prop} {p : Vp} {ps : List Vp} {A : Prop} (h : ∀ F v, p.p F v → A) (w : A → Cbs fr Θ r (p :: ps) K) : Cbs fr Θ r (p :: ps) K := fun F H vs ok a Q k => by
  cases a with
  | cons a b => exact w (h _ _ a) F H _ ok (.cons a b) Q k
theorem Sls.tell {r : V → Option Int → Option Int → Hp → VK → Prop} {p : Vp} {lo hi : Option Int} {A : Prop} (h : ∀ F v, p.p F v → A) (w : A → Sls fr Θ r p lo hi K) : Sls fr Θ r p lo hi K := fun F H v ok a Q k => w (h _ _ a) F H v ok a Q k
theorem te_S {z : Str} : ∀ F v, (iz yS z).p F v → z.length ≤ big := fun _ _ h => h.2
theorem te_L {α : Type} {r : Rep α} {xs : List α} : ∀ F v, (iz (yL r) xs).p F v → xs.length ≤ big := fun _ _ h => h.2
theorem we_cSy {z : Str} (h : Asc z) (hl : z.length ≤ big) (k : K (iz yS z) Θ) : We fr Γ Θ (tC (.str z)) K := we_c (p := iz yS z) (fun _ => ⟨⟨rfl, h⟩, hl⟩) k
theorem oy_eqS {m n : Str} (k : K (iz zB (decide (m = n))) Θ) : Ops fr Θ rEq (iz yS m) (iz yS n) K := (ops_eqS k).le le_zS le_zS
theorem oy_addS {m n : Str} (hl : m.length + n.length ≤ big) (k : K (iz yS (m ++ n)) Θ) : Ops fr Θ (fun x y H Q => ∃ i j, x = .str i ∧ y = .str j ∧ i.length + j.length ≤ sizeLine ∧ Q (.str (i ++ j)) H) (iz yS m) (iz yS n) K :=
  (Ops.conv (ops_addS (big_line hl) ⟨_, le_yS (by show (m.cps ++ n.cps).size ≤ big; rw [Array.size_append]; exact hl), k⟩)).le le_zS le_zS
theorem oy_ixS {z : Str} {n : Int} {c : Nat} (e : atI z.cps.toList n = some c) (k : K (iz yS ⟨#[c]⟩) Θ) : Ops fr Θ rIxS (iz yS z) (iz zI n) K :=
  Ops.tell te_S fun hl => (Ops.conv (ops_ixS (big_line hl) e ⟨_, le_yS (by show 1 ≤ big; decide), k⟩)).le le_zS (Vp.Le.refl _)
def SeqY {α : Type} (fr : Fr) (Θ : List Cel) (p : Vp) (r : Rep α) (xs : List α) : Prop := SeqP fr Θ p r xs ∧ ∀ F H v, OkF fr Θ F H → p.p F v → xs.length ≤ big
theorem sy_L {α : Type} {r : Rep α} {xs : List α} : SeqY fr Θ (iz (yL r) xs) r xs := ⟨fun F H v ok h => seq_L F H v ok h.1, fun _ _ _ _ h => h.2⟩
theorem sy_C {α : Type} {r : Rep α} {xs : List α} {a : Addr} {j : Nat} (hj : Θ[j]? = some (cY a r xs)) : SeqY fr Θ (zAt a) r xs := ⟨fun F H v ok hv => by
  obtain ⟨_, ⟨o, h2, ⟨⟨vs, rfl, h4⟩, h5⟩⟩, _⟩ := ok.ce _ (List.mem_of_getElem? hj)
  exact ⟨a, vs, hv, .inl (.inl h2), h4⟩, fun F H v ok hv => by
  obtain ⟨_, ⟨o, h2, ⟨⟨vs, rfl, h4⟩, h5⟩⟩, _⟩ := ok.ce _ (List.mem_of_getElem? hj)
  exact h5⟩
theorem seq_yS {p : Vp} {xs : List Str} (h : SeqY fr Θ p yS xs) : SeqP fr Θ p zS xs := fun F H v ok hv => by
  obtain ⟨a, vs, h1, h2, h3⟩ := h.1 F H v ok hv
  exact ⟨a, vs, h1, h2, Paired.imp2 (fun _ _ q => q.1) h3⟩
theorem oy_inS {Kf : PySem.W.Frag} {p : Vp} {z : Str} {xs : List Str} (h : SeqY fr Θ p yS xs) (k : K (iz zB (decide (z ∈ xs))) Θ) : Ops fr Θ (rIn Kf false) (iz yS z) p K := (ops_inS (seq_yS h) k).le le_zS (Vp.Le.refl _)
theorem oy_ninS {Kf : PySem.W.Frag} {p : Vp} {z : Str} {xs : List Str} (h : SeqY fr Θ p yS xs) (k : K (iz zB (!decide (z ∈ xs))) Θ) : Ops fr Θ (rIn Kf true) (iz yS z) p K := (ops_ninS (seq_yS h) k).le le_zS (Vp.Le.refl _)
theorem oy_ixL {Kf : PySem.W.Frag} {α : Type} {r : Rep α} {xs : List α} {n : Int} {x : α} (e : atI xs n = some x) (k : K (iz r x) Θ) : Ops fr Θ (rIxL Kf) (iz (yL r) xs) (iz zI n) K := (ops_ixL e k).le le_zL (Vp.Le.refl _)
theorem cy_len {Kf : PySem.W.Frag} {α : Type} {r : Rep α} {xs : List α} {p : Vp} (h : SeqY fr Θ p r xs) (k : xs.length ≤ big → K (iz zI xs.length) Θ) : Cbs fr Θ (rLenQ Kf) [p] K := fun F H vs ok hps Q q => by
  have hl : xs.length ≤ big := by
    cases hps with
    | cons a b => exact h.2 F H _ ok a
  exact cb_len h.1 (k hl) F H vs ok hps Q q
theorem cy_lenS {z : Str} (k : z.length ≤ big → K (iz zI z.length) Θ) : Cbs fr Θ (fun xs H Q => ∃ z, xs = [.str z] ∧ z.length ≤ sizeLine ∧ Q (.int z.length) H) [iz yS z] K := Cbs.tell te_S fun hl F H vs ok hps Q q => cb_lenS (big_line hl) (k hl) F H vs ok (by
  cases hps with
  | cons a b => cases b with
    | nil => exact .cons a.1 .nil) Q q
theorem cy_list {Kf : PySem.W.Frag} {α : Type} {r : Rep α} {xs : List α} {p : Vp} (h : SeqY fr Θ p r xs) (k : K (iz (yL r) xs) Θ) : Cbs fr Θ (rListQ Kf) [p] K := fun F H vs ok hps Q q => by
  have hl : xs.length ≤ big := by
    cases hps with
    | cons a b => exact h.2 F H _ ok a
  exact (Cbs.conv (cb_list h.1 ⟨_, le_yL hl, k⟩)) F H vs ok hps Q q
theorem cy_listO {Kf : PySem.W.Frag} {α : Type} {r : Rep α} {xs : List α} {p : Vp} (h : SeqY fr Θ p r xs) (k : ∀ a, K (zAt a) (cY a r xs :: Θ)) : Cbs fr Θ (rListQ Kf) [p] K := fun F H vs ok hps Q q => by
  cases hps with
  | cons a b => cases b with
    | nil =>
      have hl := h.2 F H _ ok a
      obtain ⟨p, us, h1, h2, h3⟩ := h.1 F H _ ok a
      refine ⟨p, us, by rw [h1], sq_or h2, fun l nl => q _ _ (k l) _ F _ (Same.refl F) (ok.mkOwn (c := cY l r xs) nl rfl ⟨⟨_, rfl, h3⟩, hl⟩) rfl⟩
theorem cy_all {Kf : PySem.W.Frag} {xs : List Bool} (k : K (iz zB (xs.all id)) Θ) : Cbs fr Θ (rAll Kf) [iz (yL zB) xs] K := fun F H vs ok hps Q q => cb_all k F H vs ok (by
  cases hps with
  | cons a b => cases b with
    | nil => exact .cons a.1 .nil) Q q
theorem cy_sum {Kf : PySem.W.Frag} {xs : List Int} (k : K (iz zI xs.sum) Θ) : Cbs fr Θ (rSum Kf) [iz (yL zI) xs] K := fun F H vs ok hps Q q => cb_sum k F H vs ok (by
  cases hps with
  | cons a b => cases b with
    | nil => exact .cons a.1 .nil) Q q
theorem cutX_len {α : Type} {xs : List α} {lo hi : Option Int} {n : Nat} (h : xs.length ≤ n) : (cutX xs lo hi).length ≤ n := by
  unfold cutX
  have h1 := List.length_take_le (HT.sIx xs.length xs.length hi - HT.sIx xs.length 0 lo) (xs.drop (HT.sIx xs.length 0 lo))
  rw [List.length_take, List.length_drop]
  omega
theorem sy_slL {Kf : PySem.W.Frag} {α : Type} {r : Rep α} {xs : List α} {lo hi : Option Int} (k : K (iz (yL r) (cutX xs lo hi)) Θ) : Sls fr Θ (rSlL Kf) (iz (yL r) xs) lo hi K := Sls.tell te_L fun hl => (Sls.conv (sls_L ⟨_, le_yL (cutX_len hl), k⟩)).le le_zL
theorem oy_cat {α : Type} {r : Rep α} {xs ys : List α} (hl : xs.length + ys.length ≤ big) (k : K (iz (yL r) (xs ++ ys)) Θ) : Ops fr Θ rCat (iz (yL r) xs) (iz (yL r) ys) K := (Ops.conv (ops_cat (big_line hl) ⟨_, le_yL (by rw [List.length_append]; exact hl), k⟩)).le le_zL le_zL
theorem we_lstY {α : Type} {r : Rep α} {t : TA} (w : Wa fr Γ Θ t fun ps Θ1 => ∃ xs : List α, ps = xs.map (iz r) ∧ xs.length ≤ 1000 ∧ K (iz (yL r) xs) Θ1) : We fr Γ Θ (tLst t) K := We.conv (we_lst (r := r) fun σ F H ok env Q q => w σ F H ok env Q fun ps Θ1 ⟨xs, e, hl, k⟩ => q ps Θ1 ⟨xs, e, by rw [e, List.length_map]; exact hl, _, le_yL (Nat.le_trans hl (by decide)), k⟩)
theorem we_ownY {α : Type} (r : Rep α) {t : TA} (w : Wa fr Γ Θ t fun ps Θ1 => ∃ xs : List α, ps = xs.map (iz r) ∧ xs.length ≤ 1000 ∧ ∀ a, K (zAt a) (cY a r xs :: Θ1)) : We fr Γ Θ (tLst t) K := fun σ F H ok env Q q =>
  w σ F H ok env _ fun ps Θ1 ⟨xs, e, hl, k⟩ vs F1 H1 s1 ok1 hps => by
    subst e
    have h4 := pvs_map hps
    exact ⟨Nat.le_of_lt (small1000 (by rw [Paired.len h4]; exact hl)), fun p np => q _ _ (k p) _ F1 _ s1 (ok1.mkOwn (c := cY p r xs) np rfl ⟨⟨_, rfl, h4⟩, Nat.le_trans hl (by decide)⟩) rfl⟩
theorem tr5 {α β γ δ ε : Type} {r : Rep α} {s : Rep β} {t : Rep γ} {u : Rep δ} {o : Rep ε} {x : α} {y : β} {z : γ} {w : δ} {v : ε} : TupR [iz r x, iz s y, iz t z, iz u w, iz o v] (iz (z5 r s t u o) (x, y, z, w, v)) := fun F a vs h hp => by
  cases hp with
  | cons h1 hp => cases hp with
    | cons h2 hp => cases hp with
      | cons h3 hp => cases hp with
        | cons h4 hp => cases hp with
          | cons h5 hp => cases hp with
            | nil => exact ⟨a, _, _, _, _, _, rfl, h, h1, h2, h3, h4, h5⟩
theorem tr1 {α : Type} {r : Rep α} {x : α} : TupR [iz r x] (iz (z1 r) x) := fun F a vs h hp => by
  cases hp with
  | cons h1 hp => cases hp with
    | nil => exact ⟨a, _, rfl, h, h1⟩
end
end L2
set_option Elab.async false
set_option linter.all false
set_option maxRecDepth 100000
set_option maxHeartbeats 4000000
namespace L2
open PySem PySem.Spec PyProof.Rows PySem.HErr
theorem mapD_comp {α β : Type} {f : α → (β → Prop) → Prop} {k : List β → Prop} : ∀ (xs : List α) (acc : List β), mapD xs acc f k = compD xs acc (fun x k => f x fun y => k (some y)) k
  | [], _ => rfl
  | x :: xs, acc => by
    show (f x fun y => mapD xs (acc ++ [y]) f k) = f x fun y => compD xs (acc ++ [y]) _ k
    congr 1
    funext y
    exact mapD_comp xs _
theorem compD_pure {α β : Type} {pr : α → Bool} {f : α → β} {k : List β → Prop} : ∀ (xs : List α) (acc : List β), compD xs acc (fun x k => ifD (pr x) (k (some (f x))) (k none)) k = k (acc ++ (xs.filter pr).map f)
  | [], acc => by simp [compD]
  | x :: xs, acc => by
    show ifD (pr x) (compD xs (acc ++ [f x]) _ k) (compD xs (acc ++ []) _ k) = _
    rw [compD_pure xs, compD_pure xs, List.filter_cons]
    unfold ifD
    cases pr x <;> simp
theorem mapD_pure {α β : Type} {f : α → β} {k : List β → Prop} : ∀ (xs : List α) (acc : List β), mapD xs acc (fun x k => k (f x)) k = k (acc ++ xs.map f)
  | [], acc => by simp [mapD]
  | x :: xs, acc => by
    show mapD xs (acc ++ [f x]) _ k = _
    rw [mapD_pure xs]
    simp
section
variable {fr : Fr} {Γ Γ' : Gam} {Θ Θ' : List Cel} {F F' H H' : Hp} {K : Vp → List Cel → Prop} {Q : VK}
theorem wi_yL {Kf : PySem.W.Frag} {tl : TE} {K : List Vp → List Cel → Prop} (w : We fr Γ Θ tl fun p Θ1 => ∃ (α : Type) (r : Rep α) (xs : List α), p = iz (yL r) xs ∧ (xs.length ≤ big → K (xs.map (iz r)) Θ1)) : Wi fr Γ Θ (iList Kf tl) K := fun σ F H ok env R q =>
  wi_list (fr := fr) (Γ := Γ) (Θ := Θ) (Kf := Kf) (tl := tl) (K := K) (fun σ F H ok env Q q => w σ F H ok env Q fun p Θ1 ⟨α, r, xs, e, k⟩ v F1 H1 s1 ok1 hp => by
    subst e
    exact q (iz (zL r) xs) Θ1 ⟨α, r, xs, rfl, k hp.2⟩ v F1 H1 s1 ok1 hp.1) σ F H ok env R q
theorem kn_forW {wi : TI} {g : TG} {tb : TS} {D : Ends} {α S : Type} {r : Rep α} (G : S → Gam) (T : S → List Cel) (s0 : S)
    (w : Wi fr Γ Θ wi fun its Θ1 => ∃ (xs : List α) (body : α → S → (S → Prop) → (S → Prop) → Prop) (after : S → Prop) (vs : List Nat) (Γ2 : α → S → Gam), its = xs.map (iz r) ∧ Θ1 = T s0 ∧ GLe Γ (G s0) ∧ (∀ x s, TgR g vs (iz r x) (G s) (Γ2 x s)) ∧ forD xs s0 body after ∧
      (∀ fr', FrLe fr fr' → ∀ x s nx M, (∀ s' Γ' Θ', nx s' → GLe Γ' (G s') → Θ' = T s' → Kn fr' Γ' Θ' M) → (∀ s' Γ' Θ', after s' → GLe Γ' (G s') → Θ' = T s' → Kn fr' Γ' Θ' D.nx) → body x s nx after → Kn fr' (Γ2 x s) (T s) (tb { D with nx := M, ct := M, bk := D.nx })) ∧
      (∀ s, after s → Kn fr (G s) (T s) D.nx)) : Kn fr Γ Θ (tFor wi g tb D) :=
  kn_for fun σ F H ok env R q => w σ F H ok env R fun its Θ1 ⟨xs, body, after, vs, Γ2, e1, e2, l0, tg, hf, hs, hd⟩ => q its Θ1 (by
    subst e1 e2
    refine ⟨fun i Γ1 Θ2 => ∃ s, Γ1 = G s ∧ Θ2 = T s ∧ forD (xs.drop i) s body after, ⟨G s0, l0, s0, rfl, rfl, hf⟩, fun fr' le i p Γ1 Θ2 hi ⟨s, eg, et, h⟩ => ?_, fun Γ1 Θ2 ⟨s, eg, et, h⟩ => ?_⟩
    · subst eg et
      obtain ⟨x, hx, rfl⟩ := get_izs hi
      rw [drop_at hx] at h
      refine ⟨vs, _, tg x s, hs fr' le x s _ _ (fun s' Γ' Θ' hn gl e => ?_) (fun s' Γ' Θ' hn gl e => ?_) h⟩
      · subst e
        exact kn_mid ⟨G s', gl, s', rfl, rfl, hn⟩
      · subst e
        exact ((hd s' hn).fine le).le gl
    · subst eg et
      rw [List.length_map, List.drop_length] at h
      exact hd s h)
theorem kn_cutW {t u : TS} {D : Ends} {S : Type} (G : S → Gam) (T : S → List Cel) {f : (S → Prop) → Prop} {k : S → Prop} (h : joinD f k)
    (hb : ∀ M, (∀ s' Γ' Θ', k s' → GLe Γ' (G s') → Θ' = T s' → Kn fr Γ' Θ' M) → f k → Kn fr Γ Θ (t { D with nx := M })) (hr : ∀ s, k s → Kn fr (G s) (T s) (u D)) : Kn fr Γ Θ (C8.tCut t u D) :=
  kn_cut (fun Γ Θ => ∃ s, Γ = G s ∧ Θ = T s ∧ k s) (hb _ (fun s' Γ' Θ' hn gl e => by
    subst e
    exact kn_mid ⟨G s', gl, s', rfl, rfl, hn⟩) h) fun Γ Θ ⟨s, e1, e2, hk⟩ => by
    subst e1 e2
    exact hr s hk
theorem wt_orC {K : Bool → List Cel → Prop} {t u : TT} (w : Wt fr Γ Θ t fun b Θ1 => (b = false → Wt fr Γ Θ1 u K) ∧ (b = true → K true Θ1)) : Wt fr Γ Θ (tOr t u) K := fun σ F H ok env Q q =>
  w σ F H ok env _ fun b Θ1 ⟨k2, k1⟩ F1 H1 s1 ok1 => by
    cases b with
    | true => rw [if_pos rfl]; exact q true Θ1 (k1 rfl) F1 H1 s1 ok1
    | false => rw [if_neg Bool.false_ne_true]; exact k2 rfl σ F1 H1 ok1 (env.mono s1) Q fun c Θ2 kk F2 H2 s2 => q c Θ2 kk F2 H2 (s1.trans s2)
theorem we_andC {t u : TE} (w : We fr Γ Θ t fun p Θ1 => ∃ b, p = iz zB b ∧ (b = true → We fr Γ Θ1 u K) ∧ (b = false → K (iz zB false) Θ1)) : We fr Γ Θ (tAndV t u) K := fun σ F H ok env Q q =>
  w σ F H ok env _ fun p Θ1 ⟨b, e, k1, k2⟩ v F1 H1 s1 ok1 hp => by
    subst e
    refine ⟨b, hp, ?_⟩
    cases b with
    | true => rw [if_pos rfl]; exact k1 rfl σ F1 H1 ok1 (env.mono s1) Q (q.mono s1)
    | false => rw [if_neg Bool.false_ne_true]; exact q _ Θ1 (k2 rfl) _ F1 H1 s1 ok1 rfl
theorem we_orC {t u : TE} (w : We fr Γ Θ t fun p Θ1 => ∃ b, p = iz zB b ∧ (b = false → We fr Γ Θ1 u K) ∧ (b = true → K (iz zB true) Θ1)) : We fr Γ Θ (tOrV t u) K := fun σ F H ok env Q q =>
  w σ F H ok env _ fun p Θ1 ⟨b, e, k2, k1⟩ v F1 H1 s1 ok1 hp => by
    subst e
    refine ⟨b, hp, ?_⟩
    cases b with
    | true => rw [if_pos rfl]; exact q _ Θ1 (k1 rfl) _ F1 H1 s1 ok1 rfl
    | false => rw [if_neg Bool.false_ne_true]; exact k2 rfl σ F1 H1 ok1 (env.mono s1) Q (q.mono s1)
theorem orK {b : Bool} {f : (Bool → Prop) → Prop} {k : Bool → Prop} {u : TT} {K : Bool → List Cel → Prop} (h : orD b f k) (x : f k → Wt fr Γ Θ u fun c Θ' => Θ' = Θ ∧ k c) (kk : ∀ c, k c → K c Θ) : (b = false → Wt fr Γ Θ u K) ∧ (b = true → K true Θ) :=
  ⟨fun e σ F H ok env Q q => x (h.2 e) σ F H ok env Q fun c Θ' ⟨e1, hc⟩ => q c Θ' (by rw [e1]; exact kk c hc), fun e => kk true (h.1 e)⟩
theorem orKv {b : Bool} {f : (Bool → Prop) → Prop} {k : Bool → Prop} {u : TE} (h : orD b f k) (x : f k → We fr Γ Θ u fun p Θ' => Θ' = Θ ∧ ∃ c, p = iz zB c ∧ k c) (kk : ∀ c, k c → K (iz zB c) Θ) : ∃ b', iz zB b = iz zB b' ∧ (b' = false → We fr Γ Θ u K) ∧ (b' = true → K (iz zB true) Θ) :=
  ⟨b, rfl, fun e σ F H ok env Q q => x (h.2 e) σ F H ok env Q fun p Θ' ⟨e1, c, e2, hc⟩ => q p Θ' (by rw [e1, e2]; exact kk c hc), fun e => kk true (h.1 e)⟩
/-- a < b < c of ints -/
theorem we_chainI {h1 h2 : Int → Int → Bool} {ta tb tc : TE} (w : We fr Γ Θ ta fun p Θ1 => We fr Γ Θ1 tb fun q Θ2 => ∃ a b c, p = iz zI a ∧ q = iz zI b ∧ Ev fr Γ Θ2 tc (iz zI c) ∧ K (iz zB (h1 a b && h2 b c)) Θ2) : We fr Γ Θ (tChain (rI0 fun i j => .bl (h1 i j)) (rI0 fun i j => .bl (h2 i j)) ta tb tc) K := fun σ F H ok env Q q =>
  w σ F H ok env _ fun p Θ1 w1 v1 F1 H1 s1 ok1 hp1 => w1 σ F1 H1 ok1 (env.mono s1) _ fun p2 Θ2 ⟨a, b, c, e1, e2, w2, k⟩ v2 F2 H2 s2 ok2 hp2 => by
    subst e1 e2
    refine ⟨a, b, hp1, hp2, h1 a b, rfl, ?_⟩
    cases hb : h1 a b with
    | true =>
      rw [if_pos rfl]
      refine w2 σ F2 H2 ok2 ((env.mono s1).mono s2) _ fun o Θ3 ⟨e3, e4⟩ v3 F3 H3 s3 ok3 hp3 => ?_
      subst e3 e4
      rw [hb, Bool.true_and] at k
      exact ⟨b, c, hp2, hp3, q _ Θ3 k _ F3 H3 ((s1.trans s2).trans s3) ok3 rfl⟩
    | false =>
      rw [if_neg Bool.false_ne_true]
      rw [hb, Bool.false_and] at k
      exact q _ Θ2 k _ F2 H2 (s1.trans s2) ok2 rfl
theorem we_lcW {α β : Type} {r : Rep α} {s : Rep β} {wi : TI} {g : TG} {tt : TT} {te : TE} {vs : List Nat}
    (w : Wi fr Γ Θ wi fun its Θ1 => ∃ (xs : List α) (f : α → (Option β → Prop) → Prop) (k : List β → Prop) (Γ2 : α → Gam), its = xs.map (iz r) ∧ Θ1 = Θ ∧ xs.length ≤ big ∧ (∀ x, TgR g vs (iz r x) (wipeG Γ vs) (Γ2 x)) ∧ compD xs [] f k ∧
      (∀ x c kx, f x kx → Wt fr (Γ2 x) (c :: Θ) tt fun b Θ1 => (b = true → We fr (Γ2 x) Θ1 te fun q Θ' => Θ' = c :: Θ ∧ ∃ y, q = iz s y ∧ kx (some y)) ∧ (b = false → Θ1 = c :: Θ ∧ kx none)) ∧
      (∀ ys, k ys → ys.length ≤ big → K (iz (yL s) ys) Θ)) : We fr Γ Θ (tLc wi g tt te vs) K := fun σ F H ok env Q q => by
  refine w σ F H ok env _ fun its Θ1 ⟨xs, f, k, Γ2, e1, e2, hl, tg, hc, hs, hk⟩ J F1 H1 s1 ok1 jok => ?_
  subst e1 e2
  intro D nD
  refine ⟨fun i m H' => m = xs.length - i ∧ i ≤ xs.length ∧ ∃ F2 ys, Same F1 F2 ∧ OkF fr (cL D s ys :: Θ1) F2 H' ∧ ys.length ≤ i ∧ compD (xs.drop i) ys f k, ⟨xs.length, by simp, Nat.zero_le _, F1, [], Same.refl _, ok1.mkOwn (c := cL D s []) nD rfl ⟨[], rfl, .nil⟩, Nat.le_refl _, hc⟩, ?_⟩
  rintro i m H' ⟨rfl, hi, F2, ys, s2, ok2, yl, py⟩
  obtain ⟨j1, j2⟩ := jok F2 H' s2 ok2.fh
  by_cases hlt : i < xs.length
  · have hx : xs[i]? = some xs[i] := List.getElem?_eq_getElem hlt
    generalize xs[i] = x at hx
    obtain ⟨jg, jy⟩ := j1 i (iz r x) (by rw [List.getElem?_map, hx]; rfl)
    refine .inr ⟨jg, fun H3 => ∃ F3 ys, Same F1 F3 ∧ OkF fr (cL D s ys :: Θ1) F3 H3 ∧ ys.length ≤ i + 1 ∧ compD (xs.drop (i + 1)) ys f k, fun H3 p => ⟨xs.length - (i + 1), by omega, rfl, hlt, p⟩, fun v H3 y => ?_⟩
    obtain ⟨F3, e1, e2, e3, e4, e5⟩ := jy v H3 y
    have ok3 := ok2.grow e2 e1 e3 e4
    have s3 := s2.trans e1
    have hd : xs.drop i = x :: xs.drop (i + 1) := by
      obtain ⟨hl, e⟩ := List.getElem?_eq_some_iff.mp hx
      rw [List.drop_eq_getElem_cons hl, e]
    rw [hd] at py
    refine tg x (L2.wipe σ vs) F3 H3 v ok3.fh ((env.mono (s1.trans s3)).wipe vs) e5 _ fun σ2 env2 hw => ⟨?_, ?_⟩
    · rw [hw, wipe_idem]
    · refine hs x _ _ py σ2 F3 H3 ok3 env2 _ fun b Θ2 ⟨k1, k2⟩ F4 H4 s4 ok4 => ?_
      cases b with
      | true =>
        rw [if_pos rfl]
        refine k1 rfl σ2 F4 H4 ok4 (env2.mono s4) _ fun p Θ3 ⟨e8, y, e9, hy⟩ u F5 H5 s5 ok5 hp => ?_
        subst e8 e9
        obtain ⟨_, ⟨o, h2, acc, rfl, h4⟩, _⟩ := ok5.ce _ (List.mem_cons_self ..)
        have ok6 := ok5.mut (i := 0) (c := cL D s ys) (c' := cL D s (ys ++ [y])) (o := .lst (acc ++ [u])) rfl rfl rfl ⟨_, rfl, PySem.Paired.snoc h4 hp⟩
        refine ⟨acc, h2, ?_, F5, ys ++ [y], (s3.trans s4).trans s5, ok6, by rw [List.length_append]; show _ + 1 ≤ _; omega, hy⟩
        rw [Paired.len h4]
        exact big_lt (by omega)
      | false =>
        rw [if_neg Bool.false_ne_true]
        obtain ⟨e8, hn⟩ := k2 rfl
        subst e8
        have hn : compD (xs.drop (i + 1)) (ys ++ []) f k := hn
        rw [List.append_nil] at hn
        exact ⟨F4, ys, s3.trans s4, ok4, by omega, hn⟩
  · have e : i = xs.length := by omega
    subst e
    rw [List.drop_length] at py
    obtain ⟨_, ⟨o, h2, acc, rfl, h4⟩, _⟩ := ok2.ce _ (List.mem_cons_self ..)
    have ok3 := ok2.frz (i := 0) (c := cL D s ys) rfl rfl h2
    have sD : Same F2 (upd F2 D (.lst acc)) := same_upd (ok2.ce _ (List.mem_cons_self ..)).1
    have yb : ys.length ≤ big := by omega
    refine .inl ⟨by rw [List.length_map] at j2; exact j2, q _ _ (hk ys py yb) _ _ H' ((s1.trans s2).trans sD) ok3 ⟨⟨D, acc, rfl, upd_same, Paired.imp2 (fun _ _ h => s.mono sD h) h4⟩, yb⟩⟩
/-- with a test, all plain -/
theorem we_lcP {α β : Type} {r : Rep α} {s : Rep β} {wi : TI} {g : TG} {tt : TT} {te : TE} {vs : List Nat}
    (w : Wi fr Γ Θ wi fun its Θ1 => ∃ (xs : List α) (pr : α → Bool) (f : α → β) (Γ2 : α → Gam), its = xs.map (iz r) ∧ Θ1 = Θ ∧ xs.length ≤ big ∧ (∀ x, TgR g vs (iz r x) (wipeG Γ vs) (Γ2 x)) ∧
      (∀ x c, Et fr (Γ2 x) (c :: Θ) tt (pr x)) ∧ (∀ x c, Ev fr (Γ2 x) (c :: Θ) te (iz s (f x))) ∧ K (iz (yL s) ((xs.filter pr).map f)) Θ) : We fr Γ Θ (tLc wi g tt te vs) K :=
  we_lcW (r := r) (s := s) fun σ F H ok env R q => w σ F H ok env R fun its Θ1 ⟨xs, pr, f, Γ2, e1, e2, hl, tg, ht, he, k⟩ => q its Θ1 ⟨xs, fun x k => ifD (pr x) (k (some (f x))) (k none), (· = (xs.filter pr).map f), Γ2, e1, e2, hl, tg, by rw [compD_pure]; rfl,
    fun x c kx h σ F H ok env Q q => ht x c σ F H ok env Q fun b Θ1 ⟨e1, e2⟩ => q b Θ1 (by
      subst e1 e2
      exact ⟨fun hb => (he x c).imp fun p Θ' ⟨e3, e4⟩ => ⟨e4, _, e3, h.1 hb⟩, fun hb => ⟨rfl, h.2 hb⟩⟩), fun ys e _ => by rw [e]; exact k⟩
/-- without a test -/
theorem we_lcM {α β : Type} {r : Rep α} {s : Rep β} {wi : TI} {g : TG} {te : TE} {vs : List Nat}
    (w : Wi fr Γ Θ wi fun its Θ1 => ∃ (xs : List α) (f : α → (β → Prop) → Prop) (k : List β → Prop) (Γ2 : α → Gam), its = xs.map (iz r) ∧ Θ1 = Θ ∧ xs.length ≤ big ∧ (∀ x, TgR g vs (iz r x) (wipeG Γ vs) (Γ2 x)) ∧ mapD xs [] f k ∧
      (∀ x c kx, f x kx → We fr (Γ2 x) (c :: Θ) te fun q Θ' => Θ' = c :: Θ ∧ ∃ y, q = iz s y ∧ kx y) ∧
      (∀ ys, k ys → ys.length ≤ big → K (iz (yL s) ys) Θ)) : We fr Γ Θ (tLc wi g tYes te vs) K :=
  we_lcW (r := r) (s := s) fun σ F H ok env R q => w σ F H ok env R fun its Θ1 ⟨xs, f, k, Γ2, e1, e2, hl, tg, hm, he, hk⟩ => q its Θ1 ⟨xs, fun x k => f x fun y => k (some y), k, Γ2, e1, e2, hl, tg, by rw [← mapD_comp]; exact hm,
    fun x c kx h => wt_yes ⟨fun _ => (he x c _ h), (fun h => nomatch h)⟩, hk⟩
theorem we_lcM0 {α β : Type} {r : Rep α} {s : Rep β} {wi : TI} {g : TG} {te : TE} {vs : List Nat}
    (w : Wi fr Γ Θ wi fun its Θ1 => ∃ (xs : List α) (f : α → β) (Γ2 : α → Gam), its = xs.map (iz r) ∧ Θ1 = Θ ∧ xs.length ≤ big ∧ (∀ x, TgR g vs (iz r x) (wipeG Γ vs) (Γ2 x)) ∧
      (∀ x c, Ev fr (Γ2 x) (c :: Θ) te (iz s (f x))) ∧ K (iz (yL s) (xs.map f)) Θ) : We fr Γ Θ (tLc wi g tYes te vs) K :=
  we_lcM (r := r) (s := s) fun σ F H ok env R q => w σ F H ok env R fun its Θ1 ⟨xs, f, Γ2, e1, e2, hl, tg, he, k⟩ => q its Θ1 ⟨xs, fun x k => k (f x), (· = xs.map f), Γ2, e1, e2, hl, tg, by rw [mapD_pure]; rfl,
    fun x c kx h => (he x c).imp fun p Θ' ⟨e3, e4⟩ => ⟨e4, _, e3, h⟩, fun ys e _ => by rw [e]; exact k⟩
theorem kn_appY {Kf : PySem.W.Frag} {α : Type} {r : Rep α} {xs : List α} {a : Addr} {i j : Nat} {te : TE} {D : Ends} (hi : Γ[i]? = some (some (zAt a))) (hj : Θ[j]? = some (cY a r xs))
    (w : We fr Γ Θ te fun p Θ1 => ∃ x, p = iz r x ∧ Θ1[j]? = some (cY a r xs) ∧ xs.length < big ∧ Kn fr Γ (Θ1.set j (cY a r (xs ++ [x]))) D.nx) : Kn fr Γ Θ (tDrop (tBM Kf "list" rAppend (tVar i) (tCons te tNil)) D) := by
  refine kn_drop (we_bm (we_var hi ⟨fun F H v ok hv => ?_, wa_cons (w.imp fun p Θ1 ⟨x, e, hj1, hl, k⟩ => wa_nil ?_)⟩))
  · obtain ⟨_, ⟨o, h2, ⟨⟨vs, rfl, h4⟩, h5⟩⟩, _⟩ := ok.ce _ (List.mem_of_getElem? hj)
    have hv : v = .ref a := hv
    subst hv
    exact .inl ⟨rfl, vs, SqL.of h2⟩
  · subst e
    intro F H v vs ok hv hps Q q
    cases hps with
    | cons h1 hp => cases hp with
      | nil =>
        obtain ⟨_, ⟨o, h2, ⟨⟨us, rfl, h4⟩, h5⟩⟩, _⟩ := ok.ce _ (List.mem_of_getElem? hj1)
        have ok2 := ok.mut (c' := cY a r (xs ++ [x])) (o := .lst (us ++ [_])) hj1 rfl rfl ⟨⟨_, rfl, PySem.Paired.snoc h4 h1⟩, by rw [List.length_append]; exact hl⟩
        exact ⟨a, us, _, hv, rfl, h2, by rw [Paired.len h4]; exact big_lt (Nat.le_of_lt hl), q zNon _ k _ F _ (Same.refl F) ok2 rfl⟩
theorem rt_frzY {α : Type} {r : Rep α} {xs : List α} {a : Addr} {j : Nat} {rt : VK} (hj : Θ[j]? = some (cY a r xs)) (k : Rt fr (Θ.eraseIdx j) rt (iz (yL r) xs)) : Rt fr Θ rt (zAt a) := fun v F H ok hp => by
  have hp : v = .ref a := hp
  subst hp
  obtain ⟨h0, ⟨o, h3, ⟨⟨vs, rfl, h5⟩, h6⟩⟩, _⟩ := ok.ce _ (List.mem_of_getElem? hj)
  have h3 : H a = some (.lst vs) := h3
  have ok2 := ok.frz hj rfl h3
  exact k _ _ H ok2 ⟨⟨a, vs, rfl, upd_same, Paired.imp2 (fun _ _ h => r.mono (same_upd h0) h) h5⟩, h6⟩
end
end L2
set_option Elab.async false
set_option linter.all false
set_option maxRecDepth 100000
set_option maxHeartbeats 4000000
namespace L2
open PySem PySem.Spec PyProof.Rows PySem.HErr
def preW {α β : Type} (ef : HE → Er) (args : α → List Vp) (r : Rep β) (m : α → DM β) : Pre := fun ps out err => ∃ x Q X, ps = args x ∧ m x Q X ∧ out = (fun p => ∃ y, Q y ∧ p = iz r y) ∧ err = fun e => ∃ z, X z ∧ e = ef z
def preBW {α β : Type} (args : α → List Vp) (r : Rep β) (m : α → DM β) : PreB := fun qs o => ∃ x Q, qs = args x ∧ m x Q noX ∧ o = fun p => ∃ y, Q y ∧ p = iz r y
def RetW {β : Type} (fr : Fr) (Qv : VK) (r : Rep β) (Q : β → Prop) : Prop := ∀ y, Q y → ∀ Θ, Rt fr Θ Qv (iz r y)
def RetBW {β : Type} (fr : Fr) (b l : Addr) (Qv : VK) (r : Rep β) (Q : β → Prop) : Prop := ∀ y, Q y → ∀ Θ, cBox true b l ∈ Θ → Rt fr Θ Qv (iz r y)
def RseW (fr : Fr) (E : XK) (ef : HE → Er) (X : HE → Prop) : Prop := ∀ z, X z → ∀ Γ Θ, Kr fr Γ Θ (fun cls d _ H => E cls d H) (ef z)
section
variable {fr fr' : Fr} {Γ Γ' : Gam} {Θ Θ' : List Cel} {F F' H H' : Hp} {K : Vp → List Cel → Prop} {Qv : VK}
theorem RetW.fine {β : Type} {r : Rep β} {Q : β → Prop} (h : RetW fr Qv r Q) (l : FrLe fr fr') : RetW fr' Qv r Q := fun y hy Θ => (h y hy Θ).fine l
theorem RetBW.fine {β : Type} {b l : Addr} {r : Rep β} {Q : β → Prop} (h : RetBW fr b l Qv r Q) (le : FrLe fr fr') : RetBW fr' b l Qv r Q := fun y hy Θ hc => (h y hy Θ hc).fine le
theorem RseW.fine {E : XK} {ef : HE → Er} {X : HE → Prop} (h : RseW fr E ef X) (l : FrLe fr fr') : RseW fr' E ef X := fun z hz Γ Θ σ F H ok env d us hd hf => h z hz Γ Θ σ F H (ok.le l) env d us hd hf
theorem sps_W {α β : Type} {ef : HE → Er} {args : α → List Vp} {r : Rep β} {m : α → DM β} {E : L2.St → XK} {ps : List Vp} {Q : β → Prop} {X : HE → Prop} (x : α) (h : m x Q X) (k : ∀ y, Q y → K (iz r y) Θ) (xx : ∀ z, X z → Kr fr Γ Θ (fun cls d σ H => E σ cls d H) (ef z)) (e : ps = args x := by rfl) : Sps fr Γ Θ (spA (preW ef args r m)) E ps K :=
  sps_A ⟨x, Q, X, e, h, rfl, rfl⟩ (fun p ⟨y, hy, e⟩ => by rw [e]; exact k y hy) fun er ⟨z, hz, e⟩ => by rw [e]; exact xx z hz
/-- nothing is raised -/
theorem sps_W0 {α β : Type} {ef : HE → Er} {args : α → List Vp} {r : Rep β} {m : α → DM β} {E : L2.St → XK} {ps : List Vp} {Q : β → Prop} (x : α) (h : m x Q noX) (k : ∀ y, Q y → K (iz r y) Θ) (e : ps = args x := by rfl) : Sps fr Γ Θ (spA (preW ef args r m)) E ps K := sps_W x h k (fun z hz => hz.elim) e
/-- what is raised leaves the def -/
theorem sps_WE {α β : Type} {ef : HE → Er} {args : α → List Vp} {r : Rep β} {m : α → DM β} {E : XK} {ps : List Vp} {Q : β → Prop} {X : HE → Prop} (hx : RseW fr E ef X) (x : α) (h : m x Q X) (k : ∀ y, Q y → K (iz r y) Θ) (e : ps = args x := by rfl) : Sps fr Γ Θ (spA (preW ef args r m)) (fun _ => E) ps K := sps_W x h k (fun z hz => hx z hz Γ Θ) e
def drawD (m : Int) (k : Int → Prop) : Prop := 0 < m ∧ m ≤ 10 ^ 40 ∧ ∀ n, 0 ≤ n → n < m → k n
section
variable {Kf : PySem.W.Frag} {mg : Str → Option Value} {C : Addr} {d : PlanD}
theorem FldR.conv {f : Str} {p q q' : Vp} (h : FldR Kf f p q) (hq : ∀ F v u, p.p F v → q.p F u → q'.p F u) : FldR Kf f p q' := fun F v hp => by
  obtain ⟨a, C, dx, fs, u, h1, h2, h3, h4, h5, h6⟩ := h F v hp
  exact ⟨a, C, dx, fs, u, h1, h2, h3, h4, h5, hq F v u hp h6⟩
theorem PlanOk.nw (h : PlanOk d) {z : Str} (hz : z ∈ d.names) : Wd z := by
  obtain ⟨r, hr, rfl⟩ := List.mem_map.mp hz
  exact (h.st r hr).1
theorem KVs.imp {α : Type} {r s : Rep α} {kvs : List (Key × V)} {rows : List (Str × α)} (h : KVs r F kvs rows) (f : ∀ v x, x ∈ rows → r.p F v x.2 → s.p F v x.2) : KVs s F kvs rows := by
  have : ∀ {kvs : List (Key × V)} {rows : List (Str × α)}, KVs r F kvs rows → (∀ v x, x ∈ rows → r.p F v x.2 → s.p F v x.2) → KVs s F kvs rows := by
    intro kvs rows h
    induction h with
    | nil => intro _; exact .nil
    | cons a _ ih => intro f; exact .cons ⟨a.1, f _ _ (List.mem_cons_self ..) a.2⟩ (ih fun v x hx => f v x (List.mem_cons_of_mem _ hx))
  exact this h f
end
theorem putR_len {α : Type} (rows : List (Str × α)) (n : Str) (x : α) : (putR rows n x).length ≤ rows.length + 1 := by
  unfold putR
  split
  · rw [List.length_map]; omega
  · rw [List.length_append]; exact Nat.le_refl _
theorem kn_raiseY {tm : Bool} {C : Addr} {fs : List Str} {W : WX} {ta : TA} {D : Ends} (w : Wa fr Γ Θ ta fun ps Θ1 => ps.length = fs.length ∧ (tm = true → ∃ z r, ps = iz yS z :: r ∧ z.length ≤ 1000) ∧ Kr fr Γ Θ1 W ⟨C, (fs.zip ps).reverse⟩) : Kn fr Γ Θ (tRaiseE tm C fs W ta D) := fun σ F H ok env =>
  w σ F H ok env _ fun ps Θ1 ⟨hl, ht, k⟩ vs F1 H1 s1 ok1 hps => by
    refine ⟨by rw [← Paired.len hps]; exact hl, fun h => ?_, fun d nd => ?_⟩
    · obtain ⟨z, r, e, hz⟩ := ht h
      subst e
      cases hps with
      | cons a b => exact ⟨z, _, by rw [a.1.1], hz⟩
    · have s2 := ok1.sameF (o := .xd (fs.zip vs).reverse) nd
      exact k σ _ _ (ok1.new nd) ((env.mono s1).mono s2) d _ upd_same (Paired.rev (zip_ok (fs := fs) (ps_mono s2 hps)))
def erW (cs : EK → Addr) : HE → Er
  | .tooMany k l => ⟨cs .tooMany, [("limit", iz zI l), ("kind", iz yS k)]⟩
  | .badWord w => ⟨cs .badWord, [("word", iz yS w)]⟩
  | .double n => ⟨cs .double, [("name", iz yS n)]⟩
  | .badNumber n => ⟨cs .badNumber, [("number", iz zI n)]⟩
  | .empty n => ⟨cs .empty, [("name", iz yS n)]⟩
  | .unknown n => ⟨cs .unknown, [("name", iz yS n)]⟩
  | .inUse n => ⟨cs .inUse, [("name", iz yS n)]⟩
  | .badState ns => ⟨cs .badState, [("numbers", iz (yT zI) ns)]⟩
  | .notReady s p i => ⟨cs .notReady, [("at", iz zI i), ("place", iz yS p), ("step", iz yS s)]⟩
  | .notSound d => ⟨cs .notSound, [("paper", iz yX d)]⟩
  | .badPair n => ⟨cs .badPair, [("name", iz yS n)]⟩
  | .badText n => ⟨cs .badText, [("line_number", iz zI n)]⟩
  | .noUndo => ⟨cs .noUndo, []⟩
instance : Dat yS := ⟨PyData.str, 0, fun h => Dat.dp (r := zS) h.1, fun h => Dat.ok (r := zS) h.1, fun x => Dat.dl (r := zS) x, fun h => Dat.inj (r := zS) h⟩
instance {α : Type} {r : Rep α} [d : Dat r] : Dat (yL r) := ⟨Dat.enc (zL r), Dat.dep (zL r), fun h => Dat.dp (r := zL r) h.1, fun h => Dat.ok (r := zL r) h.1, fun x => Dat.dl (r := zL r) x, fun h => Dat.inj (r := zL r) h⟩
instance {α : Type} [TNar α] {r : Rep α} [d : Dat r] : Dat (yT r) := ⟨Dat.enc (zT r), Dat.dep (zT r), fun h => Dat.dp (r := zT r) h.1, fun h => Dat.ok (r := zT r) h.1, fun x => Dat.dl (r := zT r) x, fun h => Dat.inj (r := zT r) h⟩
end
section
variable {P : Program} {w : World} {K : PySem.W.Frag} {mg : Str → Option Value} {base : Heap} {x m qual : Str} {C : Addr} {st : Stmt} {N ps : List Str} {k : Nat} {α β : Type} {ef : HE → Er} {args : α → List Vp} {r : Rep β} {md : α → DM β}
theorem Src.okW (F : Src K mg x st ps) (S : FnScope N ps (defScope st)) (len : ∀ x, (args x).length = ps.length)
    (hbody : ∀ (f : Addr) (cdv : Value) (A : Around) (outer : List Env) (s : Shared) (H : Hp) (E : XK) (a : α) (Q : β → Prop) (X : HE → Prop), Room k (A.deeper (envOfC x (defScope st) s.heap.objs.size f cdv)) → md a Q X →
      ∃ t, PSs (cxOf CX0 P w K mg base N x (defScope st) f cdv A outer s H E).nox (defBody st) t ∧ ∀ fr Qv, RetW fr Qv r Q → Kn fr (envOf N (args a)) [] (t { nx := fun _ H' => Qv .non H', rt := Qv })) : Def P w K mg base CX0 (k + 1) x ps (spA (preW ef args r md)) :=
  F.okA S (fun qs out err ⟨a, Q, X, e, _⟩ => by rw [e]; exact len a) fun f cdv A outer s H E qs out err hr ⟨a, Q, X, e1, h, e2, e3⟩ => by
    subst e1 e2 e3
    obtain ⟨t, ht, hk⟩ := hbody f cdv A outer s H E a Q X hr h
    exact ⟨t, ht, fun fr Qv hret => hk fr Qv fun y hy Θ => hret _ ⟨y, hy, rfl⟩ Θ⟩
theorem Src.okWX (F : Src K mg x st ps) (S : FnScope N ps (defScope st)) (len : ∀ x, (args x).length = ps.length)
    (hbody : ∀ (f : Addr) (cdv : Value) (A : Around) (outer : List Env) (s : Shared) (H : Hp) (E : XK) (a : α) (Q : β → Prop) (X : HE → Prop), Room k (A.deeper (envOfC x (defScope st) s.heap.objs.size f cdv)) → md a Q X →
      ∃ t, PSs (cxOf (L2.CX P w) P w K mg base N x (defScope st) f cdv A outer s H E) (defBody st) t ∧ ∀ fr Qv, RetW fr Qv r Q → RseW fr E ef X → Kn fr (envOf N (args a)) [] (t { nx := fun _ H' => Qv .non H', rt := Qv })) : Def P w K mg base (L2.CX P w) (k + 1) x ps (spA (preW ef args r md)) :=
  F.okAX S (fun qs out err ⟨a, Q, X, e, _⟩ => by rw [e]; exact len a) fun f cdv A outer s H E qs out err hr ⟨a, Q, X, e1, h, e2, e3⟩ => by
    subst e1 e2 e3
    obtain ⟨t, ht, hk⟩ := hbody f cdv A outer s H E a Q X hr h
    exact ⟨t, ht, fun fr Qv hret hrse => hk fr Qv (fun y hy Θ => hret _ ⟨y, hy, rfl⟩ Θ) fun z hz Γ Θ => kr_E hrse ⟨z, hz, rfl⟩⟩
theorem SrcM.okW (F : SrcM K C m qual st ps) (S : FnScope N ps (defScope st)) (len : ∀ x, (args x).length = ps.length)
    (hbody : ∀ (f : Addr) (cdv : Value) (A : Around) (outer : List Env) (s : Shared) (H : Hp) (E : XK) (a : α) (Q : β → Prop) (X : HE → Prop), Room k (A.deeper (envOfC qual (defScope st) s.heap.objs.size f cdv)) → md a Q X →
      ∃ t, PSs (cxOf CX0 P w K mg base N qual (defScope st) f cdv A outer s H E).nox (defBody st) t ∧ ∀ fr Qv, RetW fr Qv r Q → Kn fr (envOf N (args a)) [] (t { nx := fun _ H' => Qv .non H', rt := Qv })) : DefM P w K mg base CX0 (k + 1) C m ps (spA (preW ef args r md)) :=
  F.okA S (fun qs out err ⟨a, Q, X, e, _⟩ => by rw [e]; exact len a) fun f cdv A outer s H E qs out err hr ⟨a, Q, X, e1, h, e2, e3⟩ => by
    subst e1 e2 e3
    obtain ⟨t, ht, hk⟩ := hbody f cdv A outer s H E a Q X hr h
    exact ⟨t, ht, fun fr Qv hret => hk fr Qv fun y hy Θ => hret _ ⟨y, hy, rfl⟩ Θ⟩
theorem SrcM.okWX (F : SrcM K C m qual st ps) (S : FnScope N ps (defScope st)) (len : ∀ x, (args x).length = ps.length)
    (hbody : ∀ (f : Addr) (cdv : Value) (A : Around) (outer : List Env) (s : Shared) (H : Hp) (E : XK) (a : α) (Q : β → Prop) (X : HE → Prop), Room k (A.deeper (envOfC qual (defScope st) s.heap.objs.size f cdv)) → md a Q X →
      ∃ t, PSs (cxOf (L2.CX P w) P w K mg base N qual (defScope st) f cdv A outer s H E) (defBody st) t ∧ ∀ fr Qv, RetW fr Qv r Q → RseW fr E ef X → Kn fr (envOf N (args a)) [] (t { nx := fun _ H' => Qv .non H', rt := Qv })) : DefM P w K mg base (L2.CX P w) (k + 1) C m ps (spA (preW ef args r md)) :=
  F.okAX S (fun qs out err ⟨a, Q, X, e, _⟩ => by rw [e]; exact len a) fun f cdv A outer s H E qs out err hr ⟨a, Q, X, e1, h, e2, e3⟩ => by
    subst e1 e2 e3
    obtain ⟨t, ht, hk⟩ := hbody f cdv A outer s H E a Q X hr h
    exact ⟨t, ht, fun fr Qv hret hrse => hk fr Qv (fun y hy Θ => hret _ ⟨y, hy, rfl⟩ Θ) fun z hz Γ Θ => kr_E hrse ⟨z, hz, rfl⟩⟩
end
end L2
set_option Elab.async false
set_option linter.all false
set_option maxRecDepth 100000
set_option maxHeartbeats 4000000
namespace L2
open PySem PySem.Spec PyProof.Rows PySem.HErr
section
variable {fr fr' : Fr} {Γ Γ' : Gam} {Θ Θ' : List Cel} {F F' H H' : Hp} {K : Vp → List Cel → Prop} {Qv : VK}
theorem we_andP {t u : TE} (w : We fr Γ Θ t fun p Θ1 => ∃ b c, p = iz zB b ∧ (b = true → Ev fr Γ Θ1 u (iz zB c)) ∧ K (iz zB (b && c)) Θ1) : We fr Γ Θ (tAndV t u) K :=
  we_andC (w.imp fun p Θ1 ⟨b, c, e, h1, k⟩ => ⟨b, e, fun e => (h1 e).imp fun p Θ' ⟨e1, e2⟩ => by
    subst e1 e2 e
    exact k, fun e => by
    subst e
    exact k⟩)
instance : NotNon yS := ⟨fun F v x h => by rw [h.1.1]; exact fun q => by cases q⟩
instance {α : Type} {r : Rep α} : NotNon (yL r) := ⟨fun F v x h => NotNon.nn (r := zL r) F v x h.1⟩
instance {α : Type} [TNar α] {r : Rep α} : NotNon (yT r) := ⟨fun F v x h => NotNon.nn (r := zT r) F v x h.1⟩
instance {α : Type} {r : Rep α} : NotNon (yD r) := ⟨fun F v x ⟨⟨a, kvs, h, _⟩, _⟩ => by rw [h]; exact fun q => by cases q⟩
instance {α β : Type} {r : Rep α} {s : Rep β} : NotNon (zLp r s) := ⟨fun F v x ⟨a, u, w, h, _⟩ => by rw [h]; exact fun q => by cases q⟩
instance {α β γ δ : Type} {r : Rep α} {s : Rep β} {t : Rep γ} {u : Rep δ} : NotNon (z4 r s t u) := ⟨fun F v x ⟨a, v1, v2, v3, v4, h, _⟩ => by rw [h]; exact fun q => by cases q⟩
instance {C : Addr} : NotNon (zPlan C) := ⟨fun F v x ⟨a, h, _⟩ => by rw [h]; exact fun q => by cases q⟩
theorem ty_L' {Kf : PySem.W.Frag} {α : Type} {r : Rep α} {xs : List α} : TruP fr Θ Kf (iz (yL r) xs) (!xs.isEmpty) := fun F H v ok h => tru_L F H v ok h.1
theorem kn_asgL {α : Type} {r : Rep α} {te : TE} {i : Nat} {D : Ends} (w : We fr Γ Θ te fun p Θ1 => ∃ v : α, p = iz r v ∧ ∀ v', v' = v → Kn fr (Γ.set i (some (iz r v'))) Θ1 D.nx) : Kn fr Γ Θ (tAsg te (gName i) D) := kn_asg (w.imp fun p Θ1 ⟨v, e, k⟩ => by
  subst e
  exact k v rfl)
theorem ty_yL {Kf : PySem.W.Frag} {α : Type} {r : Rep α} {xs : List α} : TyP fr Θ Kf (iz (yL r) xs) (.type "list") := fun F H v ok h => ty_L F H v ok h.1
theorem intsF_big {n : Int} (h : n ≤ 100000) : (intsF 0 n.toNat).length ≤ big := by
  rw [intsF_len]
  have : big = 100000 := rfl
  omega
end
end L2
set_option Elab.async false
set_option linter.all false
set_option maxRecDepth 100000
set_option maxHeartbeats 4000000
namespace L2
open PySem PySem.Spec PyProof.Rows PySem.HErr
section
variable {fr fr' : Fr} {Γ Γ' : Gam} {Θ Θ' : List Cel} {F F' H H' : Hp} {K : Vp → List Cel → Prop} {Qv : VK}
theorem depth_mem {ds : List PyData} {d : PyData} {n : Nat} (h : PyData.depthAll ds ≤ n) (hd : d ∈ ds) : d.depth ≤ n := by
  induction ds with
  | nil => cases hd
  | cons a l ih =>
    simp only [PyData.depthAll] at h
    rcases List.mem_cons.mp hd with rfl | hd
    · omega
    · exact ih (by omega) hd
theorem xpAll_pvs : ∀ {ds : List PyData} {vs : List V}, xpAll F ds vs → (∀ d ∈ ds, d.depth ≤ 60) → PVs yX F vs ds
  | [], _, h, _ => by simp only [xpAll] at h; subst h; exact .nil
  | d :: ds, _, h, hd => by
    simp only [xpAll] at h
    obtain ⟨v, r, rfl, h2, h3⟩ := h
    exact .cons ⟨h2, hd d (List.mem_cons_self ..)⟩ (xpAll_pvs h3 fun x hx => hd x (List.mem_cons_of_mem _ hx))
class XDat {α : Type} (r : Rep α) where
  enc : α → PyData
  dep : Nat
  xd : ∀ {F : Hp} {v : V} {x : α}, r.p F v x → xp F (enc x) v ∧ (enc x).depth ≤ dep
instance : XDat yX := ⟨id, 60, fun h => h⟩
instance : XDat zI := ⟨PyData.int, 0, fun h => by simp only [xp, PyData.depth]; exact ⟨h, Nat.le_refl _⟩⟩
instance : XDat yN := ⟨fun _ => PyData.none, 0, fun h => by simp only [xp, PyData.depth]; exact ⟨h, Nat.le_refl _⟩⟩
instance : XDat yS := ⟨PyData.str, 0, fun h => by simp only [xp, PyData.depth]; exact ⟨⟨h.1.1, h.1.2, h.2⟩, Nat.le_refl _⟩⟩
theorem xd_all {α : Type} {r : Rep α} [d : XDat r] {vs : List V} {xs : List α} (h : PVs r F vs xs) : xpAll F (xs.map d.enc) vs ∧ PyData.depthAll (xs.map d.enc) ≤ d.dep := by
  induction h with
  | nil => exact ⟨by simp only [List.map_nil, xpAll], by simp only [List.map_nil, PyData.depthAll]; exact Nat.zero_le _⟩
  | cons a _ ih =>
    simp only [List.map_cons, xpAll, PyData.depthAll]
    have := (d.xd a).2
    have := ih.2
    exact ⟨⟨_, _, rfl, (d.xd a).1, ih.1⟩, by omega⟩
instance {α : Type} {r : Rep α} [d : XDat r] : XDat (yL r) := ⟨fun xs => .list (xs.map d.enc), d.dep + 1, fun ⟨⟨a, vs, h1, h2, h3⟩, h4⟩ => by
  have := (xd_all h3).2
  simp only [xp, PyData.depth]
  exact ⟨⟨a, vs, h1, h2, by rw [List.length_map]; exact h4, (xd_all h3).1⟩, by omega⟩⟩
/-- data of these things stand as the things -/
class XNar {α : Type} [TNar α] (r : Rep α) [XDat r] : Prop where
  nx : ∀ xs : List α, TNar.nar xs = true ∨ TNar.nar (xs.map (XDat.enc (r := r))) = TNar.nar xs
instance {α : Type} [TNar α] [TAll α] {r : Rep α} [XDat r] : XNar r := ⟨fun xs => .inl (TAll.all xs)⟩
theorem isSDs_strs (xs : List Str) : isSDs (xs.map PyData.str) = !xs.isEmpty := by
  unfold isSDs
  have : (xs.map PyData.str).all isSD = true := List.all_eq_true.mpr fun x hx => by
    obtain ⟨y, _, rfl⟩ := List.mem_map.mp hx
    rfl
  rw [this, Bool.and_true]
  cases xs <;> rfl
theorem isSDs_no {ds : List PyData} {d : PyData} (h : d ∈ ds) (e : isSD d = false) : isSDs ds = false := by
  unfold isSDs
  rw [show ds.all isSD = false from List.all_eq_false.mpr ⟨d, h, by rw [e]; exact Bool.false_ne_true⟩, Bool.and_false]
instance : XNar yS := ⟨fun xs => .inr (by show (!isSDs (xs.map PyData.str)) = xs.isEmpty; rw [isSDs_strs, Bool.not_not])⟩
instance : XNar yX := ⟨fun xs => .inr (by rw [show (XDat.enc (r := yX)) = id from rfl, List.map_id])⟩
theorem XNar.tup {α : Type} [TNar α] {r : Rep α} [XDat r] [k : XNar r] {F : Hp} {a : Addr} {vs : List V} {xs : List α} (h : TupB (TNar.nar xs) F a vs) : TupB (TNar.nar (xs.map (XDat.enc (r := r)))) F a vs := (k.nx xs).elim (fun e => .inl (h.nar e)) fun e => by rw [e]; exact h
instance {α : Type} [TNar α] {r : Rep α} [d : XDat r] [XNar r] : XDat (yT r) := ⟨fun xs => .tuple (xs.map d.enc), d.dep + 1, fun ⟨⟨a, vs, h1, h2, h3⟩, h4⟩ => by
  have := (xd_all h3).2
  simp only [xp, PyData.depth]
  exact ⟨⟨a, vs, h1, XNar.tup h2, by rw [List.length_map]; exact h4, (xd_all h3).1⟩, by omega⟩⟩
instance {α : Type} {r : Rep α} [d : XDat r] : XDat (z1 r) := ⟨fun x => .tuple [d.enc x], d.dep + 1, fun ⟨a, v1, h1, h2, h3⟩ => by
  have := (d.xd h3).2
  simp only [xp, xpAll, PyData.depth, PyData.depthAll]
  exact ⟨⟨a, _, h1, .inl h2, by show 1 ≤ big; decide, _, _, rfl, (d.xd h3).1, rfl⟩, by omega⟩⟩
instance {α β : Type} {r : Rep α} {s : Rep β} [d : XDat r] [e : XDat s] : XDat (z2 r s) := ⟨fun x => .tuple [d.enc x.1, e.enc x.2], max d.dep e.dep + 1, fun ⟨a, u, w, h1, h2, h3, h4⟩ => by
  have := (d.xd h3).2
  have := (e.xd h4).2
  simp only [xp, xpAll, PyData.depth, PyData.depthAll]
  exact ⟨⟨a, _, h1, .inl h2, by show 2 ≤ big; decide, _, _, rfl, (d.xd h3).1, _, _, rfl, (e.xd h4).1, rfl⟩, by omega⟩⟩
instance {α β γ : Type} {r : Rep α} {s : Rep β} {t : Rep γ} [d : XDat r] [e : XDat s] [f : XDat t] : XDat (z3 r s t) := ⟨fun x => .tuple [d.enc x.1, e.enc x.2.1, f.enc x.2.2], max d.dep (max e.dep f.dep) + 1, fun ⟨a, u, w, z, h1, h2, h3, h4, h5⟩ => by
  have := (d.xd h3).2
  have := (e.xd h4).2
  have := (f.xd h5).2
  simp only [xp, xpAll, PyData.depth, PyData.depthAll]
  exact ⟨⟨a, _, h1, .inl h2, by show 3 ≤ big; decide, _, _, rfl, (d.xd h3).1, _, _, rfl, (e.xd h4).1, _, _, rfl, (f.xd h5).1, rfl⟩, by omega⟩⟩
instance {α β γ δ : Type} {r : Rep α} {s : Rep β} {t : Rep γ} {u : Rep δ} [d : XDat r] [e : XDat s] [f : XDat t] [g : XDat u] : XDat (z4 r s t u) := ⟨fun x => .tuple [d.enc x.1, e.enc x.2.1, f.enc x.2.2.1, g.enc x.2.2.2], max (max d.dep e.dep) (max f.dep g.dep) + 1, fun ⟨a, v1, v2, v3, v4, h1, h2, h3, h4, h5, h6⟩ => by
  have := (d.xd h3).2
  have := (e.xd h4).2
  have := (f.xd h5).2
  have := (g.xd h6).2
  simp only [xp, xpAll, PyData.depth, PyData.depthAll]
  exact ⟨⟨a, _, h1, .inl h2, by show 4 ≤ big; decide, _, _, rfl, (d.xd h3).1, _, _, rfl, (e.xd h4).1, _, _, rfl, (f.xd h5).1, _, _, rfl, (g.xd h6).1, rfl⟩, by omega⟩⟩
instance {α β : Type} {r : Rep α} {s : Rep β} [d : XDat r] [e : XDat s] : XDat (zLp r s) := ⟨fun x => .list [d.enc x.1, e.enc x.2], max d.dep e.dep + 1, fun ⟨a, u, w, h1, h2, h3, h4⟩ => by
  have := (d.xd h3).2
  have := (e.xd h4).2
  simp only [xp, xpAll, PyData.depth, PyData.depthAll]
  exact ⟨⟨a, _, h1, h2, by show 2 ≤ big; decide, _, _, rfl, (d.xd h3).1, _, _, rfl, (e.xd h4).1, rfl⟩, by omega⟩⟩
instance {α β γ : Type} {r : Rep α} {s : Rep β} {t : Rep γ} [d : XDat r] [e : XDat s] [f : XDat t] : XDat (zL3 r s t) := ⟨fun x => .list [d.enc x.1, e.enc x.2.1, f.enc x.2.2], max d.dep (max e.dep f.dep) + 1, fun ⟨a, u, w, z, h1, h2, h3, h4, h5⟩ => by
  have := (d.xd h3).2
  have := (e.xd h4).2
  have := (f.xd h5).2
  simp only [xp, xpAll, PyData.depth, PyData.depthAll]
  exact ⟨⟨a, _, h1, h2, by show 3 ≤ big; decide, _, _, rfl, (d.xd h3).1, _, _, rfl, (e.xd h4).1, _, _, rfl, (f.xd h5).1, rfl⟩, by omega⟩⟩
instance {α : Type} {r : Rep α} [d : XDat r] : XDat (yO r) := ⟨fun o => match o with | none => .none | some x => d.enc x, d.dep, fun {F v x} h => by
  cases x with
  | none => simp only [xp, PyData.depth]; exact ⟨h, Nat.zero_le _⟩
  | some y => exact d.xd h⟩
theorem le_XT {x : PyData} {ds : List PyData} (e : x = .tuple ds) : (iz yX x).Le (iz (yT yX) ds) := fun F v h => by
  subst e
  obtain ⟨h, hd⟩ := h
  simp only [xp] at h
  simp only [PyData.depth] at hd
  obtain ⟨a, vs, h1, h2, h3, h4⟩ := h
  exact ⟨⟨a, vs, h1, h2, xpAll_pvs h4 fun d hm => depth_mem (n := 60) (by omega) hm⟩, h3⟩
mutual
theorem xp_dp {Kf : PySem.W.Frag} : ∀ (d : PyData) (v : V), xp F d v → Dp Kf F v d ∧ nb d = true
  | .none, _, h => by simp only [xp] at h; subst h; exact ⟨.non, rfl⟩
  | .int _, _, h => by simp only [xp] at h; subst h; exact ⟨.int _, rfl⟩
  | .str _, _, h => by
    simp only [xp] at h
    obtain ⟨rfl, h2, _⟩ := h
    exact ⟨.str _, h2.ok⟩
  | .bool _, _, h => by simp only [xp] at h
  | .dict _, _, h => by simp only [xp] at h
  | .list ds, _, h => by
    simp only [xp] at h
    obtain ⟨a, vs, rfl, h2, _, h4⟩ := h
    obtain ⟨g1, g2⟩ := xpAll_dp (Kf := Kf) ds vs h4
    exact ⟨.lst (SqL.of h2) g1, g2⟩
  | .tuple ds, _, h => by
    simp only [xp] at h
    obtain ⟨a, vs, rfl, h2, _, h4⟩ := h
    obtain ⟨g1, g2⟩ := xpAll_dp (Kf := Kf) ds vs h4
    exact ⟨.tup (h2.sq (Same.refl _)) g1, g2⟩
theorem xpAll_dp {Kf : PySem.W.Frag} : ∀ (ds : List PyData) (vs : List V), xpAll F ds vs → DpAll Kf F vs ds ∧ nbAll ds = true
  | [], _, h => by simp only [xpAll] at h; subst h; exact ⟨.nil, rfl⟩
  | d :: ds, _, h => by
    simp only [xpAll] at h
    obtain ⟨v, r, rfl, h2, h3⟩ := h
    obtain ⟨g1, g2⟩ := xp_dp (Kf := Kf) d v h2
    obtain ⟨g3, g4⟩ := xpAll_dp (Kf := Kf) ds r h3
    exact ⟨.cons g1 g3, by show (nb d && nbAll ds) = true; rw [g2, g4]; rfl⟩
end
/-- papers: data that is a tuple -/
def pit : PyData → List PyData
  | .tuple ds => ds
  | _ => []
def yP : Rep PyData := ⟨fun F v d => (xp F d v ∧ d.depth ≤ 60) ∧ d = .tuple (pit d), fun e h => ⟨⟨xp_mono e _ _ h.1.1, h.1.2⟩, h.2⟩⟩
class PDat {α : Type} (r : Rep α) [d : XDat r] : Prop where
  t : ∀ x, d.enc x = .tuple (pit (d.enc x))
instance {α : Type} {r : Rep α} [XDat r] : PDat (z1 r) := ⟨fun _ => rfl⟩
instance {α : Type} [TNar α] {r : Rep α} [XDat r] [XNar r] : PDat (yT r) := ⟨fun _ => rfl⟩
instance {α β : Type} {r : Rep α} {s : Rep β} [XDat r] [XDat s] : PDat (z2 r s) := ⟨fun _ => rfl⟩
instance {α β γ : Type} {r : Rep α} {s : Rep β} {t : Rep γ} [XDat r] [XDat s] [XDat t] : PDat (z3 r s t) := ⟨fun _ => rfl⟩
instance {α β γ δ : Type} {r : Rep α} {s : Rep β} {t : Rep γ} {u : Rep δ} [XDat r] [XDat s] [XDat t] [XDat u] : PDat (z4 r s t u) := ⟨fun _ => rfl⟩
theorem le_PT {x : PyData} : (iz yP x).Le (iz (yT yX) (pit x)) := fun F v h => le_XT h.2 F v h.1
instance : XDat yP := ⟨id, 60, fun h => h.1⟩
instance : NotNon yP := ⟨fun F v x h q => by
  obtain ⟨⟨a, vs, h1, _⟩, _⟩ := le_PT F v h
  rw [q] at h1
  cases h1⟩
end
end L2
set_option Elab.async false
set_option linter.all false
set_option maxRecDepth 100000
set_option maxHeartbeats 4000000
namespace L2
open PySem PySem.Spec PyProof.Rows PySem.HErr
section
variable {fr fr' : Fr} {Γ Γ' : Gam} {Θ Θ' : List Cel} {F F' H H' : Hp} {K : Vp → List Cel → Prop} {Qv : VK}
def MkPr (fr : Fr) (Γ : Gam) (Θ : List Cel) (pre : Pre) (E : L2.St → XK) (ps : List Vp) (K : Vp → List Cel → Prop) : Prop := ∃ out err, pre ps out err ∧ (∀ p, out p → K p Θ) ∧ ∀ e, err e → Kr fr Γ Θ (fun cls d σ H => E σ cls d H) e
theorem we_mkP {C : Addr} {pre : Pre} {E : L2.St → XK} {t : TA} (w : Wa fr Γ Θ t fun ps Θ1 => MkPr fr Γ Θ1 pre E ps K) : We fr Γ Θ (tMkD C (spI C pre) E t) K := we_mk w
theorem mkW {α β : Type} {ef : HE → Er} {args : α → List Vp} {r : Rep β} {m : α → DM β} {E : L2.St → XK} {ps : List Vp} {Q : β → Prop} {X : HE → Prop} (x : α) (h : m x Q X) (k : ∀ y, Q y → K (iz r y) Θ) (xx : ∀ z, X z → Kr fr Γ Θ (fun cls d σ H => E σ cls d H) (ef z)) (e : ps = args x := by rfl) : MkPr fr Γ Θ (preW ef args r m) E ps K :=
  ⟨_, _, ⟨x, Q, X, e, h, rfl, rfl⟩, fun p ⟨y, hy, e⟩ => by rw [e]; exact k y hy, fun er ⟨z, hz, e⟩ => by rw [e]; exact xx z hz⟩
theorem mkW0 {α β : Type} {ef : HE → Er} {args : α → List Vp} {r : Rep β} {m : α → DM β} {E : L2.St → XK} {ps : List Vp} {Q : β → Prop} (x : α) (h : m x Q noX) (k : ∀ y, Q y → K (iz r y) Θ) (e : ps = args x := by rfl) : MkPr fr Γ Θ (preW ef args r m) E ps K := mkW x h k (fun z hz => hz.elim) e
theorem mkWE {α β : Type} {ef : HE → Er} {args : α → List Vp} {r : Rep β} {m : α → DM β} {E : XK} {ps : List Vp} {Q : β → Prop} {X : HE → Prop} (hx : RseW fr E ef X) (x : α) (h : m x Q X) (k : ∀ y, Q y → K (iz r y) Θ) (e : ps = args x := by rfl) : MkPr fr Γ Θ (preW ef args r m) (fun _ => E) ps K := mkW x h k (fun z hz => hx z hz Γ Θ) e
end
section
variable {P : Program} {w : World} {K : PySem.W.Frag} {mg : Str → Option Value} {base : Heap} {CX : CXT} {C : Addr} {ps : List Str} {k : Nat} {sp sp' : Sp}
theorem DefI.imp (D : DefI P w K mg base CX k C ps sp) (h : ∀ vs H Q E, sp' vs H Q E → sp vs H Q E) : DefI P w K mg base CX k C ps sp' := by
  obtain ⟨f, fd, hlk, h1, h2, h3⟩ := D.ex
  exact ⟨f, fd, hlk, h1, h2, h3.imp h⟩
end
def RowsB (prs : List (Str × Int)) (srs : List SRow) : Prop := (∀ r ∈ prs, r.1.length ≤ 1000) ∧ ∀ r ∈ srs, r.1.length ≤ 1000 ∧ r.2.1.length ≤ 1000 ∧ r.2.2.length ≤ 1000 ∧ (∀ y ∈ r.2.1, y.length ≤ 1000) ∧ ∀ y ∈ r.2.2, y.length ≤ 1000
end L2
set_option Elab.async false
set_option linter.all false
set_option maxRecDepth 100000
set_option maxHeartbeats 4000000
namespace L2
open PySem PySem.Spec PyProof.Rows PySem.HErr
section
variable {X : Cx} {K : PySem.W.Frag} {pos : Pos}
theorem kpg_tup {es : List Expr} {k : Nat} {t : TGs} {n : Nat} (hc : X.calm = true) (h : PGs X es t) (hn : (assignEach es X.env).length = n := by rfl) (hst : (assignEach es X.env).findIdx? (·.1) = none := by rfl) (hK : X.K = K := by rfl) : PG X (.Tuple es k pos) (gTup K n t) := hK ▸ pg_tup hc h hn hst
end
end L2
set_option Elab.async false
set_option linter.all false
set_option maxRecDepth 100000
set_option maxHeartbeats 4000000
namespace L2
open PySem PySem.Spec PyProof.Rows PySem.HErr
section
variable {α β S : Type}
theorem forD_inv {body : α → S → (S → Prop) → (S → Prop) → Prop} {after : S → Prop} {xs : List α} {s : S} (I : List α → S → Prop) (h0 : I [] s)
    (hs : ∀ pre x post s nx, xs = pre ++ x :: post → I pre s → (∀ s', I (pre ++ [x]) s' → nx s') → body x s nx after) (hd : ∀ s, I xs s → after s) : forD xs s body after := by
  have key : ∀ (post pre : List α) (s : S), xs = pre ++ post → I pre s → forD post s body after := by
    intro post
    induction post with
    | nil =>
      intro pre s e h
      rw [List.append_nil] at e
      subst e
      exact hd s h
    | cons x post ih =>
      intro pre s e h
      exact hs pre x post s _ e h fun s' h' => ih (pre ++ [x]) s' (by rw [e]; simp) h'
  exact key xs [] s rfl h0
/-- a loop that lets all pass -/
theorem forD_all {body : α → S → (S → Prop) → (S → Prop) → Prop} {after : S → Prop} {s : S} : ∀ {xs : List α}, (∀ x ∈ xs, ∀ nx, nx s → body x s nx after) → after s → forD xs s body after
  | [], _, h => h
  | x :: xs, hb, h => hb x (List.mem_cons_self ..) _ (forD_all (fun y hy => hb y (List.mem_cons_of_mem _ hy)) h)
theorem mapD_ok {f : α → (β → Prop) → Prop} {k : List β → Prop} (g : α → β) : ∀ {xs : List α} {acc : List β}, (∀ x ∈ xs, ∀ k, k (g x) → f x k) → k (acc ++ xs.map g) → mapD xs acc f k
  | [], acc, _, h => by simpa [mapD] using h
  | x :: xs, acc, hf, h => hf x (List.mem_cons_self ..) _ (mapD_ok g (fun y hy => hf y (List.mem_cons_of_mem _ hy)) (by simpa using h))
theorem compD_ok {f : α → (Option β → Prop) → Prop} {k : List β → Prop} (pr : α → Bool) (g : α → β) : ∀ {xs : List α} {acc : List β}, (∀ x ∈ xs, ∀ k, k (if pr x = true then some (g x) else none) → f x k) → k (acc ++ (xs.filter pr).map g) → compD xs acc f k
  | [], acc, _, h => by simpa [compD] using h
  | x :: xs, acc, hf, h => hf x (List.mem_cons_self ..) _ (compD_ok pr g (fun y hy => hf y (List.mem_cons_of_mem _ hy)) (by
    rw [List.filter_cons] at h
    cases e : pr x with
    | true => rw [if_pos e] at h; simpa [e] using h
    | false => rw [if_neg (by rw [e]; exact Bool.false_ne_true)] at h; simpa [e] using h))
/-- a loop that lays by -/
theorem forD_push {T : Type} {body : α → List T → (List T → Prop) → (List T → Prop) → Prop} {after : List T → Prop} (f : α → T) {N : Nat} : ∀ {xs : List α} {s : List T}, (∀ x ∈ xs, ∀ s nx, s.length < N → nx (s ++ [f x]) → body x s nx after) → s.length + xs.length ≤ N → after (s ++ xs.map f) → forD xs s body after
  | [], s, _, _, h => by simpa [forD] using h
  | x :: xs, s, hb, hN, h => hb x (List.mem_cons_self ..) s _ (by rw [List.length_cons] at hN; omega) (forD_push f (fun y hy => hb y (List.mem_cons_of_mem _ hy)) (by rw [List.length_append]; rw [List.length_cons] at hN; show _ + 1 + _ ≤ _; omega) (by simpa using h))
theorem forD_app {T : Type} {body : α → List T → (List T → Prop) → (List T → Prop) → Prop} {after : List T → Prop} (g : α → List T) {N : Nat} : ∀ {xs : List α} {s : List T}, (∀ x ∈ xs, ∀ s nx, s.length + (g x).length ≤ N → nx (s ++ g x) → body x s nx after) → s.length + (xs.flatMap g).length ≤ N → after (s ++ xs.flatMap g) → forD xs s body after
  | [], s, _, _, h => by simpa [forD] using h
  | x :: xs, s, hb, hN, h => by
    rw [List.flatMap_cons, List.length_append] at hN
    exact hb x (List.mem_cons_self ..) s _ (by omega) (forD_app g (fun y hy => hb y (List.mem_cons_of_mem _ hy)) (by rw [List.length_append]; omega) (by simpa using h))
theorem mapD_map {γ : Type} {g : γ → α} {f : α → (β → Prop) → Prop} {k : List β → Prop} : ∀ {xs : List γ} {acc : List β}, mapD (xs.map g) acc f k = mapD xs acc (fun x => f (g x)) k
  | [], _ => rfl
  | x :: xs, acc => by
    show (f (g x) fun y => mapD (xs.map g) (acc ++ [y]) f k) = f (g x) fun y => mapD xs (acc ++ [y]) _ k
    congr 1
    funext y
    exact mapD_map
theorem compD_map {γ : Type} {g : γ → α} {f : α → (Option β → Prop) → Prop} {k : List β → Prop} : ∀ {xs : List γ} {acc : List β}, compD (xs.map g) acc f k = compD xs acc (fun x => f (g x)) k
  | [], _ => rfl
  | x :: xs, acc => by
    show (f (g x) fun y => compD (xs.map g) (acc ++ y.toList) f k) = f (g x) fun y => compD xs (acc ++ y.toList) _ k
    congr 1
    funext y
    exact compD_map
theorem ifD_t {c : Bool} {A B : Prop} (e : c = true) (h : A) : ifD c A B := ⟨fun _ => h, fun f => by rw [e] at f; cases f⟩
theorem ifD_f {c : Bool} {A B : Prop} (e : c = false) (h : B) : ifD c A B := ⟨(fun f => by rw [e] at f; cases f), fun _ => h⟩
theorem andD_ok {b c : Bool} {f : (Bool → Prop) → Prop} {k : Bool → Prop} (hf : b = true → ∀ k, k c → f k) (h : k (b && c)) : andD b f k := by
  cases b with
  | true => exact ⟨fun _ => hf rfl _ h, (fun e => nomatch e)⟩
  | false => exact ⟨(fun e => nomatch e), fun _ => h⟩
theorem orD_ok {b c : Bool} {f : (Bool → Prop) → Prop} {k : Bool → Prop} (hf : b = false → ∀ k, k c → f k) (h : k (b || c)) : orD b f k := by
  cases b with
  | true => exact ⟨fun _ => h, (fun e => nomatch e)⟩
  | false => exact ⟨(fun e => nomatch e), fun _ => hf rfl _ h⟩
end
end L2
set_option Elab.async false
set_option linter.all false
set_option maxRecDepth 100000
set_option maxHeartbeats 4000000
namespace L2
open PySem PySem.Spec PyProof.Rows PySem.HErr
/-- the box at b: the script's copy at l, then ints -/
def cBg (b l : Addr) (ns is : List Int) : Cel := ⟨b, true, fun F o => o = .lst (.ref l :: is.map V.int) ∧ F l = some (.lst (ns.map V.int)) ∧ ns.length ≤ big, fun e ⟨h1, h2, h3⟩ => ⟨h1, e _ _ h2, h3⟩, fun h e => by subst e; simp at h⟩
abbrev BKind := Addr → Addr → Cel
def RetKW {β : Type} (mk : BKind) (fr : Fr) (b l : Addr) (Qv : VK) (r : Rep β) (Q : β → Prop) : Prop := ∀ y, Q y → ∀ Θ, mk b l ∈ Θ → Rt fr Θ Qv (iz r y)
section
variable {mk : BKind} {fr fr' : Fr} {Γ Γ' : Gam} {Θ Θ' : List Cel} {F F' H H' : Hp} {K : Vp → List Cel → Prop} {Qv : VK}
theorem RetKW.fine {β : Type} {b l : Addr} {r : Rep β} {Q : β → Prop} (h : RetKW mk fr b l Qv r Q) (le : FrLe fr fr') : RetKW mk fr' b l Qv r Q := fun y hy Θ hc => (h y hy Θ hc).fine le
theorem OkF.recell {c c' : Cel} {j : Nat} (k : OkF fr Θ F H) (hj : Θ[j]? = some c) (ha : c'.a = c.a) (ho : c'.own = c.own) (h : ∀ o, c.φ F o → c'.φ F o) : OkF fr (Θ.set j c') F H := by
  obtain ⟨_, ⟨o, h2, h3⟩, _⟩ := k.ce c (List.mem_of_getElem? hj)
  have := k.mut (c' := c') (o := o) hj ha ho (h o h3)
  have e : upd H c.a o = H := by
    funext a
    by_cases q : a = c.a
    · rw [q, upd_same, h2]
    · rw [upd_ne q]
  rw [e] at this
  exact this
theorem ob_ix {Kf : PySem.W.Frag} {b l : Addr} {j m : Nat} {ns is : List Int} {n : Int} {x : Int} (hj : Θ[j]? = some (cBg b l ns is)) (hn : n = (m : Int) + 1) (e : is[m]? = some x) (k : K (iz zI x) Θ) : Ops fr Θ (rIxL Kf) (zAt b) (iz zI n) K := fun F H v w ok hv hw Q q => by
  obtain ⟨_, ⟨o, h2, h3, h4, h5⟩, _⟩ := ok.ce _ (List.mem_of_getElem? hj)
  subst h3
  have hv : v = .ref b := hv
  have hw : w = .int n := hw
  subst hv hw hn
  refine ⟨b, _, _, .int x, rfl, rfl, SqL.of h2, ?_, q.go k ok rfl⟩
  rw [show ((m : Int) + 1) = ((m + 1 : Nat) : Int) by omega]
  refine atI_nat ?_
  rw [List.getElem?_cons_succ, List.getElem?_map, e]
  rfl
theorem ob_ix0 {Kf : PySem.W.Frag} {b l : Addr} {j : Nat} {ns is : List Int} (hj : Θ[j]? = some (cBg b l ns is)) (k : K (iz (yL zI) ns) Θ) : Ops fr Θ (rIxL Kf) (zAt b) (iz zI 0) K := fun F H v w ok hv hw Q q => by
  obtain ⟨_, ⟨o, h2, h3, h4, h5⟩, _⟩ := ok.ce _ (List.mem_of_getElem? hj)
  subst h3
  have hv : v = .ref b := hv
  have hw : w = .int 0 := hw
  subst hv hw
  exact ⟨b, _, _, .ref l, rfl, rfl, SqL.of h2, atI_nat (j := 0) rfl, q.go k ok ⟨⟨l, _, rfl, h4, ints_pvs⟩, h5⟩⟩
theorem kb_set {b l : Addr} {i j m : Nat} {ns is : List Int} {te ti : TE} {D : Ends} (hi : Γ[i]? = some (some (zAt b)))
    (w : We fr Γ Θ te fun p Θ1 => We fr Γ Θ1 ti fun q Θ2 => ∃ x n, p = iz zI x ∧ q = iz zI n ∧ n = (m : Int) + 1 ∧ m < is.length ∧ Θ2[j]? = some (cBg b l ns is) ∧ Kn fr Γ (Θ2.set j (cBg b l ns (is.set m x))) D.nx) : Kn fr Γ Θ (tAsg te (gSub (tVar i) ti rSetL) D) := fun σ F H ok env =>
  w σ F H ok env _ fun p Θ1 k v F1 H1 s1 ok1 hp => by
    obtain ⟨v0, h1, h2⟩ := (env.mono s1).get hi
    have h2 : v0 = .ref b := h2
    subst h2
    refine ⟨_, h1, k σ F1 H1 ok1 (env.mono s1) _ fun q Θ2 ⟨x, n, e1, e2, hn, hm, hj, k2⟩ w2 F2 H2 s2 ok2 hp2 => ?_⟩
    subst e1 e2 hn
    obtain ⟨_, ⟨o, h3, h4, h5, h6⟩, _⟩ := ok2.ce _ (List.mem_of_getElem? hj)
    subst h4
    have hp : v = .int x := hp
    subst hp
    refine ⟨b, _, _, m + 1, rfl, hp2, h3, ?_, k2 σ F2 _ (ok2.mut hj rfl rfl ⟨?_, h5, h6⟩) ((env.mono s1).mono s2)⟩
    · unfold ixN
      simp only [List.length_cons, List.length_map]
      rw [if_pos (by omega), if_pos (by omega)]
      congr 1
    · show HO.lst _ = HO.lst _
      rw [List.set_cons_succ, List.map_set]
end
end L2
set_option Elab.async false
set_option linter.all false
set_option maxRecDepth 100000
set_option maxHeartbeats 4000000
namespace L2
open PySem PySem.Spec PyProof.Rows PySem.HErr
def zScr (Kf : PySem.W.Frag) : Rep (List Int) := ⟨fun F v ns => ∃ a, v = .ref a ∧ SqL Kf F a (ns.map V.int) ∧ ns.length ≤ 63, fun e ⟨a, h1, h2, h3⟩ => ⟨a, h1, e.seq h2, h3⟩⟩
section
variable {fr fr' : Fr} {Γ Γ' : Gam} {Θ Θ' : List Cel} {F F' H H' : Hp} {K : Vp → List Cel → Prop} {Qv : VK}
theorem sy_slScr {Kf : PySem.W.Frag} {ns : List Int} {lo hi : Option Int} (k : K (iz (yL zI) (cutX ns lo hi)) Θ) : Sls fr Θ (rSlL Kf) (iz (zScr Kf) ns) lo hi K := fun F H v ok hv Q q => by
  obtain ⟨a, rfl, h2, h3⟩ := hv
  refine ⟨a, _, rfl, ok.fh.seq h2, fun l nl => q.new k ok nl ⟨⟨l, _, rfl, upd_same, ?_⟩, cutX_len (Nat.le_trans h3 (by decide))⟩⟩
  exact pvs_cut ints_pvs
end
end L2
set_option Elab.async false
set_option linter.all false
set_option maxRecDepth 100000
set_option maxHeartbeats 4000000
namespace L2
open PySem PySem.Spec PyProof.Rows PySem.HErr
section
variable {fr fr' : Fr} {Γ Γ' : Gam} {Θ Θ' : List Cel} {F F' H H' : Hp} {K : Vp → List Cel → Prop} {Qv : VK}
class QDat {α : Type} (r : Rep α) [DecidableEq α] where
  enc : α → PyData
  dep : Nat
  dp : ∀ {Kf : PySem.W.Frag} {F : Hp} {v : V} {x : α}, r.p F v x → Dp Kf F v (enc x)
  cl : ∀ {F : Hp} {v : V} {x : α}, r.p F v x → (enc x).canLay0 = true
  dl : ∀ x : α, (enc x).depth ≤ dep
  eq : ∀ x y : α, PyData.eqv (enc x) (enc y) = decide (x = y)
instance : QDat zI := ⟨PyData.int, 0, fun h => Dat.dp (r := zI) h, fun _ => by simp only [PyData.canLay0], fun x => Dat.dl (r := zI) x, fun x y => by simp only [PyData.eqv]; exact Bool.eq_iff_iff.mpr (by simp)⟩
instance : QDat zB := ⟨PyData.bool, 0, fun h => by cases (show _ = V.bl _ from h); exact .bl _, fun _ => by simp only [PyData.canLay0], fun x => by simp [PyData.depth], fun x y => by cases x <;> cases y <;> simp [PyData.eqv]⟩
instance : QDat yS := ⟨PyData.str, 0, fun h => Dat.dp (r := zS) h.1, fun h => by simp only [PyData.canLay0]; exact h.1.2.ok, fun x => Dat.dl (r := zS) x, fun x y => by simp only [PyData.eqv]; exact Bool.eq_iff_iff.mpr (by simp)⟩
theorem q_all {α : Type} [DecidableEq α] {r : Rep α} [d : QDat r] {Kf : PySem.W.Frag} {vs : List V} {xs : List α} (h : PVs r F vs xs) : DpAll Kf F vs (xs.map d.enc) ∧ PyData.canLayAll0 (xs.map d.enc) = true := by
  induction h with
  | nil => exact ⟨.nil, by simp only [List.map_nil, PyData.canLayAll0]⟩
  | cons a _ ih => exact ⟨.cons (d.dp a) ih.1, by simp only [List.map_cons, PyData.canLayAll0, d.cl a, ih.2, Bool.and_self]⟩
theorem q_dep {α : Type} [DecidableEq α] {r : Rep α} [d : QDat r] (xs : List α) : PyData.depthAll (xs.map d.enc) ≤ d.dep := depthAll_le fun y hy => by
  obtain ⟨x, _, rfl⟩ := List.mem_map.mp hy
  exact d.dl x
theorem q_eqs {α : Type} [DecidableEq α] {r : Rep α} [d : QDat r] : ∀ xs ys : List α, PyData.eqvAll (xs.map d.enc) (ys.map d.enc) = decide (xs = ys)
  | [], [] => by simp [PyData.eqvAll]
  | [], _ :: _ => by simp [PyData.eqvAll]
  | _ :: _, [] => by simp [PyData.eqvAll]
  | x :: xs, y :: ys => by simp [PyData.eqvAll, d.eq, q_eqs xs ys]
instance {α : Type} [DecidableEq α] {r : Rep α} [d : QDat r] : QDat (yL r) := ⟨fun xs => .list (xs.map d.enc), d.dep + 1, fun ⟨⟨a, vs, h1, h2, h3⟩, _⟩ => by subst h1; exact .lst (SqL.of h2) (q_all h3).1, fun ⟨⟨a, vs, h1, h2, h3⟩, _⟩ => by simp only [PyData.canLay0]; exact (q_all (Kf := []) h3).2, fun xs => by
  have := q_dep (r := r) xs
  simp only [PyData.depth]
  omega, fun x y => by simp only [PyData.eqv]; exact q_eqs x y⟩
instance {α : Type} [TNar α] [DecidableEq α] {r : Rep α} [d : QDat r] : QDat (yT r) := ⟨fun xs => .tuple (xs.map d.enc), d.dep + 1, fun ⟨⟨a, vs, h1, h2, h3⟩, _⟩ => by subst h1; exact .tup (h2.sq (Same.refl _)) (q_all h3).1, fun ⟨⟨a, vs, h1, h2, h3⟩, _⟩ => by simp only [PyData.canLay0]; exact (q_all (Kf := []) h3).2, fun xs => by
  have := q_dep (r := r) xs
  simp only [PyData.depth]
  omega, fun x y => by simp only [PyData.eqv]; exact q_eqs x y⟩
instance {α β : Type} [DecidableEq α] [DecidableEq β] {r : Rep α} {s : Rep β} [d : QDat r] [e : QDat s] : QDat (z2 r s) := ⟨fun x => .tuple [d.enc x.1, e.enc x.2], max d.dep e.dep + 1, fun ⟨a, u, w, h1, h2, h3, h4⟩ => by subst h1; exact .tup (SqT.of h2) (.cons (d.dp h3) (.cons (e.dp h4) .nil)),
  fun ⟨a, u, w, h1, h2, h3, h4⟩ => by simp only [PyData.canLay0, PyData.canLayAll0, d.cl h3, e.cl h4, Bool.and_self], fun x => by
    have h1 := d.dl x.1
    have h2 := e.dl x.2
    simp only [PyData.depth, PyData.depthAll]
    omega, fun x y => by
    simp only [PyData.eqv, PyData.eqvAll, d.eq, e.eq, Bool.and_true]
    exact Bool.eq_iff_iff.mpr (by simp [Prod.ext_iff])⟩
instance {α β γ : Type} [DecidableEq α] [DecidableEq β] [DecidableEq γ] {r : Rep α} {s : Rep β} {t : Rep γ} [d : QDat r] [e : QDat s] [f : QDat t] : QDat (z3 r s t) := ⟨fun x => .tuple [d.enc x.1, e.enc x.2.1, f.enc x.2.2], max d.dep (max e.dep f.dep) + 1, fun ⟨a, u, w, z, h1, h2, h3, h4, h5⟩ => by subst h1; exact .tup (SqT.of h2) (.cons (d.dp h3) (.cons (e.dp h4) (.cons (f.dp h5) .nil))),
  fun ⟨a, u, w, z, h1, h2, h3, h4, h5⟩ => by simp only [PyData.canLay0, PyData.canLayAll0, d.cl h3, e.cl h4, f.cl h5, Bool.and_self], fun x => by
    have h1 := d.dl x.1
    have h2 := e.dl x.2.1
    have h3 := f.dl x.2.2
    simp only [PyData.depth, PyData.depthAll]
    omega, fun x y => by
    simp only [PyData.eqv, PyData.eqvAll, d.eq, e.eq, f.eq, Bool.and_true]
    exact Bool.eq_iff_iff.mpr (by simp [Prod.ext_iff])⟩
instance {α β γ δ : Type} [DecidableEq α] [DecidableEq β] [DecidableEq γ] [DecidableEq δ] {r : Rep α} {s : Rep β} {t : Rep γ} {u : Rep δ} [d : QDat r] [e : QDat s] [f : QDat t] [g : QDat u] : QDat (z4 r s t u) := ⟨fun x => .tuple [d.enc x.1, e.enc x.2.1, f.enc x.2.2.1, g.enc x.2.2.2], max (max d.dep e.dep) (max f.dep g.dep) + 1, fun ⟨a, v1, v2, v3, v4, h1, h2, h3, h4, h5, h6⟩ => by subst h1; exact .tup (SqT.of h2) (.cons (d.dp h3) (.cons (e.dp h4) (.cons (f.dp h5) (.cons (g.dp h6) .nil)))),
  fun ⟨a, v1, v2, v3, v4, h1, h2, h3, h4, h5, h6⟩ => by simp only [PyData.canLay0, PyData.canLayAll0, d.cl h3, e.cl h4, f.cl h5, g.cl h6, Bool.and_self], fun x => by
    have h1 := d.dl x.1
    have h2 := e.dl x.2.1
    have h3 := f.dl x.2.2.1
    have h4 := g.dl x.2.2.2
    simp only [PyData.depth, PyData.depthAll]
    omega, fun x y => by
    simp only [PyData.eqv, PyData.eqvAll, d.eq, e.eq, f.eq, g.eq, Bool.and_true]
    exact Bool.eq_iff_iff.mpr (by simp [Prod.ext_iff])⟩
instance {α β γ δ ε : Type} [DecidableEq α] [DecidableEq β] [DecidableEq γ] [DecidableEq δ] [DecidableEq ε] {r : Rep α} {s : Rep β} {t : Rep γ} {u : Rep δ} {w : Rep ε} [d : QDat r] [e : QDat s] [f : QDat t] [g : QDat u] [i : QDat w] : QDat (z5 r s t u w) := ⟨fun x => .tuple [d.enc x.1, e.enc x.2.1, f.enc x.2.2.1, g.enc x.2.2.2.1, i.enc x.2.2.2.2], max (max d.dep e.dep) (max f.dep (max g.dep i.dep)) + 1, fun ⟨a, v1, v2, v3, v4, v5, h1, h2, h3, h4, h5, h6, h7⟩ => by subst h1; exact .tup (SqT.of h2) (.cons (d.dp h3) (.cons (e.dp h4) (.cons (f.dp h5) (.cons (g.dp h6) (.cons (i.dp h7) .nil))))),
  fun ⟨a, v1, v2, v3, v4, v5, h1, h2, h3, h4, h5, h6, h7⟩ => by simp only [PyData.canLay0, PyData.canLayAll0, d.cl h3, e.cl h4, f.cl h5, g.cl h6, i.cl h7, Bool.and_self], fun x => by
    have h1 := d.dl x.1
    have h2 := e.dl x.2.1
    have h3 := f.dl x.2.2.1
    have h4 := g.dl x.2.2.2.1
    have h5 := i.dl x.2.2.2.2
    simp only [PyData.depth, PyData.depthAll]
    omega, fun x y => by
    simp only [PyData.eqv, PyData.eqvAll, d.eq, e.eq, f.eq, g.eq, i.eq, Bool.and_true]
    exact Bool.eq_iff_iff.mpr (by simp [Prod.ext_iff])⟩
instance {α : Type} [DecidableEq α] {r : Rep α} [d : QDat r] : QDat (z1 r) := ⟨fun x => .tuple [d.enc x], d.dep + 1, fun ⟨a, v1, h1, h2, h3⟩ => by subst h1; exact .tup (SqT.of h2) (.cons (d.dp h3) .nil),
  fun ⟨a, v1, h1, h2, h3⟩ => by simp only [PyData.canLay0, PyData.canLayAll0, d.cl h3, Bool.and_self], fun x => by
    have h1 := d.dl x
    simp only [PyData.depth, PyData.depthAll]
    omega, fun x y => by simp only [PyData.eqv, PyData.eqvAll, d.eq, Bool.and_true]⟩
instance {α β : Type} [DecidableEq α] [DecidableEq β] {r : Rep α} {s : Rep β} [d : QDat r] [e : QDat s] : QDat (zLp r s) := ⟨fun x => .list [d.enc x.1, e.enc x.2], max d.dep e.dep + 1, fun ⟨a, u, w, h1, h2, h3, h4⟩ => by subst h1; exact .lst (SqL.of h2) (.cons (d.dp h3) (.cons (e.dp h4) .nil)),
  fun ⟨a, u, w, h1, h2, h3, h4⟩ => by simp only [PyData.canLay0, PyData.canLayAll0, d.cl h3, e.cl h4, Bool.and_self], fun x => by
    have h1 := d.dl x.1
    have h2 := e.dl x.2
    simp only [PyData.depth, PyData.depthAll]
    omega, fun x y => by
    simp only [PyData.eqv, PyData.eqvAll, d.eq, e.eq, Bool.and_true]
    exact Bool.eq_iff_iff.mpr (by simp [Prod.ext_iff])⟩
instance {α β γ : Type} [DecidableEq α] [DecidableEq β] [DecidableEq γ] {r : Rep α} {s : Rep β} {t : Rep γ} [d : QDat r] [e : QDat s] [f : QDat t] : QDat (zL3 r s t) := ⟨fun x => .list [d.enc x.1, e.enc x.2.1, f.enc x.2.2], max d.dep (max e.dep f.dep) + 1, fun ⟨a, u, w, z, h1, h2, h3, h4, h5⟩ => by subst h1; exact .lst (SqL.of h2) (.cons (d.dp h3) (.cons (e.dp h4) (.cons (f.dp h5) .nil))),
  fun ⟨a, u, w, z, h1, h2, h3, h4, h5⟩ => by simp only [PyData.canLay0, PyData.canLayAll0, d.cl h3, e.cl h4, f.cl h5, Bool.and_self], fun x => by
    have h1 := d.dl x.1
    have h2 := e.dl x.2.1
    have h3 := f.dl x.2.2
    simp only [PyData.depth, PyData.depthAll]
    omega, fun x y => by
    simp only [PyData.eqv, PyData.eqvAll, d.eq, e.eq, f.eq, Bool.and_true]
    exact Bool.eq_iff_iff.mpr (by simp [Prod.ext_iff])⟩
def yU {α β : Type} (r : Rep α) (s : Rep β) : Rep (α ⊕ β) := ⟨fun F v x => match x with | .inl a => r.p F v a | .inr b => s.p F v b, fun {F F' v x} e h => by
  cases x with
  | inl a => exact r.mono e h
  | inr b => exact s.mono e h⟩
/-- unlike kinds are never equal -/
class QApart {α β : Type} [DecidableEq α] [DecidableEq β] (r : Rep α) (s : Rep β) [d : QDat r] [e : QDat s] : Prop where
  ne : ∀ x y, PyData.eqv (d.enc x) (e.enc y) = false
  ne' : ∀ x y, PyData.eqv (e.enc y) (d.enc x) = false
instance {α β γ : Type} [DecidableEq α] [DecidableEq β] [DecidableEq γ] {r : Rep α} {s : Rep β} {t : Rep γ} [d : QDat r] [e : QDat s] [f : QDat t] : QApart yS (zL3 r s t) := ⟨fun x y => by simp [QDat.enc, PyData.eqv], fun x y => by simp [QDat.enc, PyData.eqv]⟩
instance {α β : Type} [DecidableEq α] [DecidableEq β] {r : Rep α} {s : Rep β} [d : QDat r] [e : QDat s] : QApart yS (zLp r s) := ⟨fun x y => by simp [QDat.enc, PyData.eqv], fun x y => by simp [QDat.enc, PyData.eqv]⟩
instance {α : Type} [DecidableEq α] {r : Rep α} [d : QDat r] : QApart yS (yL r) := ⟨fun x y => by simp [QDat.enc, PyData.eqv], fun x y => by simp [QDat.enc, PyData.eqv]⟩
instance {α : Type} [TNar α] [DecidableEq α] {r : Rep α} [d : QDat r] : QApart yS (yT r) := ⟨fun x y => by simp [QDat.enc, PyData.eqv], fun x y => by simp [QDat.enc, PyData.eqv]⟩
def numS (n : Int) : Str := Str.ofString (toString n)
theorem num_ascN (n : Nat) : Asc (numS (n : Int)) := fun c hc => by
  have e : (numS (n : Int)).cps.toList = TL.numL n := TL.tl_num n
  rw [e] at hc
  have := TL.numL_digits n c hc
  omega
theorem num_neg (n : Nat) : (numS (Int.negSucc n)).cps.toList = 45 :: TL.numL (n + 1) := by
  unfold numS
  rw [PyProof.Rows.signs_ofString]
  show ((("-" : String) ++ Nat.repr (n + 1)).toList).map Char.toNat = _
  rw [String.toList_append, List.map_append, Nat.toList_repr]
  rfl
theorem num_asc (n : Int) : Asc (numS n) := by
  cases n with
  | ofNat n => exact num_ascN n
  | negSucc n =>
    intro c hc
    rw [num_neg] at hc
    rcases List.mem_cons.mp hc with rfl | hc
    · decide
    · have := TL.numL_digits (n + 1) c hc
      omega
def CStr (n : Int) : Prop := n.natAbs < 10 ^ 200
theorem CStr.log {n : Int} (h : CStr n) : n.natAbs.log2 < 1920 := by
  unfold CStr at h
  by_cases e : n.natAbs = 0
  · rw [e]; decide
  · rw [Nat.log2_lt e]
    exact Nat.lt_trans h (by decide)
theorem num_len {n : Int} (h : CStr n) : (numS n).length ≤ 1921 := by
  have e := PySem.int_text_length_le (k := 1920) (by decide) h.log
  show (Str.ofString (toString n)).length ≤ _
  rw [PySem.ofString_length]
  exact e
theorem le_num {n : Int} (h : CStr n) : ∀ F, (iz yS (numS n)).p F (.str (Str.ofString (toString n))) := fun F => ⟨⟨rfl, num_asc n⟩, Nat.le_trans (num_len h) (by decide)⟩
theorem cy_str {n : Int} (h : CStr n) (k : K (iz yS (numS n)) Θ) : Cbs fr Θ (fun xs H Q => ∃ i : Int, xs = [.int i] ∧ i.natAbs.log2 < 1920 ∧ Q (.str (toString i)) H) [iz zI n] K := fun F H vs ok hps Q q => by
  cases hps with
  | cons h1 hp => cases hp with
    | nil =>
      have h1 : _ = V.int n := h1
      subst h1
      exact ⟨n, rfl, h.log, q.go k ok (le_num h F)⟩
end
end L2
set_option Elab.async false
set_option linter.all false
set_option maxRecDepth 100000
set_option maxHeartbeats 4000000
namespace L2
open PySem PySem.Spec PyProof.Rows PySem.HErr
section
variable {fr fr' : Fr} {Γ Γ' : Gam} {Θ Θ' : List Cel} {F F' H H' : Hp} {K : Vp → List Cel → Prop} {Qv : VK}
def tryD (hd : HE → Prop) (f : (HE → Prop) → Prop) : Prop := f hd
theorem tryD.go {hd : HE → Prop} {f : (HE → Prop) → Prop} (h : tryD hd f) : f hd := h
theorem joinD.go {S : Type} {f : (S → Prop) → Prop} {k : S → Prop} (h : joinD f k) : f k := h
theorem mkWT {α β : Type} {ef : HE → Er} {args : α → List Vp} {r : Rep β} {m : α → DM β} {E : L2.St → XK} {ps : List Vp} {Q : β → Prop} {X : HE → Prop} (x : α) (h : m x Q X) (xx : ∀ z, X z → Kr fr Γ Θ (fun cls d σ H => E σ cls d H) (ef z)) (k : ∀ y, Q y → K (iz r y) Θ) (e : ps = args x := by rfl) : MkPr fr Γ Θ (preW ef args r m) E ps K := mkW x h k xx e
theorem cb_isD {Kf : PySem.W.Frag} {C D a d : Addr} {fs : List (Str × Vp)} {b : Bool} (T : IsC Kf C) (hk : PySem.W.kitOne Kf (.ref C) (.ref D) = some b) (k : K (iz zB b) Θ) : Cbs fr Θ (rIsD Kf (.ref C) (some d) a) [zExc a d fs, zAt D] K := fun F H vs ok hps Q q => by
  cases hps with
  | cons h1 hp => cases hp with
    | cons h2 hp => cases hp with
      | nil =>
        obtain ⟨rfl, us, h3, h4⟩ := h1
        have h2 : _ = V.ref D := h2
        subst h2
        exact ⟨C, d, us, _, .ref D, b, rfl, T, rfl, ok.fh _ _ h3, rfl, fun u hu => by cases hu; rfl, hk, q.go k ok rfl⟩
theorem cb_isDT {Kf : PySem.W.Frag} {C a d : Addr} {n : String} {fs : List (Str × Vp)} {b : Bool} (T : IsC Kf C) (hk : PySem.W.kitOne Kf (.ref C) (.type n) = some b) (k : K (iz zB b) Θ) : Cbs fr Θ (rIsD Kf (.ref C) (some d) a) [zExc a d fs, zTy n] K := fun F H vs ok hps Q q => by
  cases hps with
  | cons h1 hp => cases hp with
    | cons h2 hp => cases hp with
      | nil =>
        obtain ⟨rfl, us, h3, h4⟩ := h1
        have h2 : _ = V.ty n := h2
        subst h2
        exact ⟨C, d, us, _, .type n, b, rfl, T, rfl, ok.fh _ _ h3, rfl, fun u hu => by cases hu; rfl, hk, q.go k ok rfl⟩
theorem we_cA {D : Addr} (k : K (zAt D) Θ) : We fr Γ Θ (tC (.ref D)) K := we_c (p := zAt D) (fun _ => rfl) k
instance {α β : Type} [DecidableEq α] [DecidableEq β] {r : Rep α} {s : Rep β} [d : QDat r] [e : QDat s] [ap : QApart r s] : QDat (yU r s) := ⟨fun x => match x with | .inl a => d.enc a | .inr b => e.enc b, max d.dep e.dep, fun {Kf F v x} h => by
  cases x with
  | inl a => exact d.dp h
  | inr b => exact e.dp h, fun {F v x} h => by
  cases x with
  | inl a => exact d.cl h
  | inr b => exact e.cl h, fun x => by
  cases x with
  | inl a => exact Nat.le_trans (d.dl a) (Nat.le_max_left _ _)
  | inr b => exact Nat.le_trans (e.dl b) (Nat.le_max_right _ _), fun x y => by
  cases x with
  | inl a => cases y with
    | inl b => exact (d.eq a b).trans (by simp)
    | inr b => exact (ap.ne a b).trans (by simp)
  | inr a => cases y with
    | inl b => exact (ap.ne' b a).trans (by simp)
    | inr b => exact (e.eq a b).trans (by simp)⟩
instance {α β γ : Type} [DecidableEq α] [DecidableEq β] [DecidableEq γ] {r : Rep α} {s : Rep β} {t : Rep γ} [d : QDat r] [e : QDat s] [f : QDat t] [a1 : QApart s t] [a2 : QApart r s] [a3 : QApart r t] : QApart r (yU s t) := ⟨fun x y => by
  cases y with
  | inl a => exact a2.ne x a
  | inr a => exact a3.ne x a, fun x y => by
  cases y with
  | inl a => exact a2.ne' x a
  | inr a => exact a3.ne' x a⟩
theorem Kr.le {W : WX} {e : Er} (h : Kr fr Γ' Θ W e) (g : GLe Γ Γ') : Kr fr Γ Θ W e := fun σ F H ok env d us hd hf => h σ F H ok (env.le g) d us hd hf
end
end L2
set_option Elab.async false
set_option linter.all false
set_option maxRecDepth 100000
set_option maxHeartbeats 4000000
namespace L2
open PySem PySem.Spec PyProof.Rows PySem.HErr
theorem un200 {k : Nat} {A : Around} (r : Room k A) : A.units + 200 < cLine := by
  have := r.un
  omega
section
variable {fr fr' : Fr} {Γ Γ' : Gam} {Θ Θ' : List Cel} {F F' H H' : Hp} {K : Vp → List Cel → Prop} {Qv : VK}
structure IsO (K : PySem.W.Frag) (C : Addr) : Prop where
  cl : Cls K C
  ha : PySem.W.findIn K (.ref C) "__class__" = some (some (.builtin "object.__class__"))
  hn : PySem.W.specialIn K (.builtin "object.__class__") "__get__" = some (some (.builtin "getset_descriptor.__get__"))
  htk : PySem.W.takesIn K (.builtin "object.__class__") = some true
  hm : PySem.W.mroIn K C (.type "object") = some true
theorem we_lcWN {α β : Type} {r : Rep α} {s : Rep β} {wi : TI} {g : TG} {tt : TT} {te : TE} {vs : List Nat}
    (w : Wi fr Γ Θ wi fun its Θ1 => ∃ (xs : List α) (f : α → (Option β → Prop) → Prop) (k : List β → Prop) (Γ2 : α → Gam), its = xs.map (iz r) ∧ Θ1 = Θ ∧ xs.length ≤ big ∧ (∀ x, TgR g vs (iz r x) (wipeG Γ vs) (Γ2 x)) ∧ compD xs [] f k ∧
      (∀ x c kx, f x kx → Wt fr (Γ2 x) (c :: Θ) tt fun b Θ1 => (b = true → We fr (Γ2 x) Θ1 te fun q Θ' => Θ' = c :: Θ ∧ ∃ y, q = iz s y ∧ kx (some y)) ∧ (b = false → Θ1 = c :: Θ ∧ kx none)) ∧
      (∀ ys, k ys → ys.length ≤ big → ∀ a, K (zAt a) (cY a s ys :: Θ))) : We fr Γ Θ (tLc wi g tt te vs) K := fun σ F H ok env Q q => by
  refine w σ F H ok env _ fun its Θ1 ⟨xs, f, k, Γ2, e1, e2, hl, tg, hc, hs, hk⟩ J F1 H1 s1 ok1 jok => ?_
  subst e1 e2
  intro D nD
  refine ⟨fun i m H' => m = xs.length - i ∧ i ≤ xs.length ∧ ∃ F2 ys, Same F1 F2 ∧ OkF fr (cL D s ys :: Θ1) F2 H' ∧ ys.length ≤ i ∧ compD (xs.drop i) ys f k, ⟨xs.length, by simp, Nat.zero_le _, F1, [], Same.refl _, ok1.mkOwn (c := cL D s []) nD rfl ⟨[], rfl, .nil⟩, Nat.le_refl _, hc⟩, ?_⟩
  rintro i m H' ⟨rfl, hi, F2, ys, s2, ok2, yl, py⟩
  obtain ⟨j1, j2⟩ := jok F2 H' s2 ok2.fh
  by_cases hlt : i < xs.length
  · have hx : xs[i]? = some xs[i] := List.getElem?_eq_getElem hlt
    generalize xs[i] = x at hx
    obtain ⟨jg, jy⟩ := j1 i (iz r x) (by rw [List.getElem?_map, hx]; rfl)
    refine .inr ⟨jg, fun H3 => ∃ F3 ys, Same F1 F3 ∧ OkF fr (cL D s ys :: Θ1) F3 H3 ∧ ys.length ≤ i + 1 ∧ compD (xs.drop (i + 1)) ys f k, fun H3 p => ⟨xs.length - (i + 1), by omega, rfl, hlt, p⟩, fun v H3 y => ?_⟩
    obtain ⟨F3, e1, e2, e3, e4, e5⟩ := jy v H3 y
    have ok3 := ok2.grow e2 e1 e3 e4
    have s3 := s2.trans e1
    have hd : xs.drop i = x :: xs.drop (i + 1) := by
      obtain ⟨hl, e⟩ := List.getElem?_eq_some_iff.mp hx
      rw [List.drop_eq_getElem_cons hl, e]
    rw [hd] at py
    refine tg x (L2.wipe σ vs) F3 H3 v ok3.fh ((env.mono (s1.trans s3)).wipe vs) e5 _ fun σ2 env2 hw => ⟨?_, ?_⟩
    · rw [hw, wipe_idem]
    · refine hs x _ _ py σ2 F3 H3 ok3 env2 _ fun b Θ2 ⟨k1, k2⟩ F4 H4 s4 ok4 => ?_
      cases b with
      | true =>
        rw [if_pos rfl]
        refine k1 rfl σ2 F4 H4 ok4 (env2.mono s4) _ fun p Θ3 ⟨e8, y, e9, hy⟩ u F5 H5 s5 ok5 hp => ?_
        subst e8 e9
        obtain ⟨_, ⟨o, h2, acc, rfl, h4⟩, _⟩ := ok5.ce _ (List.mem_cons_self ..)
        have ok6 := ok5.mut (i := 0) (c := cL D s ys) (c' := cL D s (ys ++ [y])) (o := .lst (acc ++ [u])) rfl rfl rfl ⟨_, rfl, PySem.Paired.snoc h4 hp⟩
        refine ⟨acc, h2, ?_, F5, ys ++ [y], (s3.trans s4).trans s5, ok6, by rw [List.length_append]; show _ + 1 ≤ _; omega, hy⟩
        rw [Paired.len h4]
        exact big_lt (by omega)
      | false =>
        rw [if_neg Bool.false_ne_true]
        obtain ⟨e8, hn⟩ := k2 rfl
        subst e8
        have hn : compD (xs.drop (i + 1)) (ys ++ []) f k := hn
        rw [List.append_nil] at hn
        exact ⟨F4, ys, s3.trans s4, ok4, by omega, hn⟩
  · have e : i = xs.length := by omega
    subst e
    rw [List.drop_length] at py
    obtain ⟨_, ⟨o, h2, acc, rfl, h4⟩, _⟩ := ok2.ce _ (List.mem_cons_self ..)
    have yb : ys.length ≤ big := by omega
    have ok3 := ok2.recell (j := 0) (c := cL D s ys) (c' := cY D s ys) rfl rfl rfl fun o ho => ⟨ho, yb⟩
    refine .inl ⟨by rw [List.length_map] at j2; exact j2, q _ _ (hk ys py yb D) _ F2 H' (s1.trans s2) ok3 rfl⟩
/-- without a test -/
theorem we_lcMN {α β : Type} {r : Rep α} {s : Rep β} {wi : TI} {g : TG} {te : TE} {vs : List Nat}
    (w : Wi fr Γ Θ wi fun its Θ1 => ∃ (xs : List α) (f : α → (β → Prop) → Prop) (k : List β → Prop) (Γ2 : α → Gam), its = xs.map (iz r) ∧ Θ1 = Θ ∧ xs.length ≤ big ∧ (∀ x, TgR g vs (iz r x) (wipeG Γ vs) (Γ2 x)) ∧ mapD xs [] f k ∧
      (∀ x c kx, f x kx → We fr (Γ2 x) (c :: Θ) te fun q Θ' => Θ' = c :: Θ ∧ ∃ y, q = iz s y ∧ kx y) ∧
      (∀ ys, k ys → ys.length ≤ big → ∀ a, K (zAt a) (cY a s ys :: Θ))) : We fr Γ Θ (tLc wi g tYes te vs) K :=
  we_lcWN (r := r) (s := s) fun σ F H ok env R q => w σ F H ok env R fun its Θ1 ⟨xs, f, k, Γ2, e1, e2, hl, tg, hm, he, hk⟩ => q its Θ1 ⟨xs, fun x k => f x fun y => k (some y), k, Γ2, e1, e2, hl, tg, by rw [← mapD_comp]; exact hm,
    fun x c kx h => wt_yes ⟨fun _ => (he x c _ h), (fun h => nomatch h)⟩, hk⟩
end
end L2
set_option Elab.async false
set_option linter.all false
set_option maxRecDepth 100000
set_option maxHeartbeats 4000000
namespace L2
open PySem PySem.Spec PyProof.Rows PySem.HErr
def LIM : Nat := 10 ^ 60
def cBagC (N : Nat) (b l : Addr) : Cel := ⟨b, true, fun F o => ∃ (ns : List Int) (i c r : Int), 0 ≤ i ∧ i ≤ (N : Int) ∧ (cBg b l ns [i, c, r]).φ F o, fun e ⟨ns, i, c, r, h1, h2, h3⟩ => ⟨ns, i, c, r, h1, h2, (cBg b l ns [i, c, r]).mono e h3⟩, fun ⟨ns, i, c, r, _, _, h⟩ e => (cBg b l ns [i, c, r]).nt h e⟩
def CelLe (c c' : Cel) : Prop := c'.a = c.a ∧ c'.own = c.own ∧ ∀ F o, c.φ F o → c'.φ F o
theorem CelLe.refl (c : Cel) : CelLe c c := ⟨rfl, rfl, fun _ _ h => h⟩
theorem CelLe.bag {N M : Nat} {b l : Addr} (h : N ≤ M) : CelLe (cBagC N b l) (cBagC M b l) := ⟨rfl, rfl, fun F o ⟨ns, i, c, r, h1, h2, h3⟩ => ⟨ns, i, c, r, h1, by omega, h3⟩⟩
def CLe (Θ Θ' : List Cel) : Prop := Paired CelLe Θ Θ'
theorem CLe.refl : ∀ Θ : List Cel, CLe Θ Θ
  | [] => .nil
  | c :: Θ => .cons (.refl c) (CLe.refl Θ)
theorem CLe.mem {Θ Θ' : List Cel} (h : CLe Θ Θ') {c' : Cel} (hc : c' ∈ Θ') : ∃ c ∈ Θ, CelLe c c' := by
  unfold CLe at h
  induction h with
  | nil => cases hc
  | cons a _ ih =>
    rcases List.mem_cons.mp hc with rfl | hc
    · exact ⟨_, List.mem_cons_self .., a⟩
    · obtain ⟨c, h1, h2⟩ := ih hc
      exact ⟨c, List.mem_cons_of_mem _ h1, h2⟩
theorem CLe.map {Θ Θ' : List Cel} (h : CLe Θ Θ') : Θ'.map Cel.a = Θ.map Cel.a := by
  unfold CLe at h
  induction h with
  | nil => rfl
  | cons a _ ih => rw [List.map_cons, List.map_cons, ih, a.1]
section
variable {fr fr' : Fr} {Γ Γ' : Gam} {Θ Θ' : List Cel} {F F' H H' : Hp} {K : Vp → List Cel → Prop} {Qv : VK}
theorem OkF.cle (k : OkF fr Θ F H) (h : CLe Θ Θ') : OkF fr Θ' F H := ⟨k.fh, k.f0, k.nw, k.h0, k.al, by rw [h.map]; exact k.nd, fun c' hc => by
  obtain ⟨c, h1, h2, h3, h4⟩ := h.mem hc
  obtain ⟨g1, ⟨o, g2, g3⟩, g4⟩ := k.ce c h1
  rw [h2, h3]
  exact ⟨g1, ⟨o, g2, h4 _ _ g3⟩, g4⟩⟩
theorem Kn.cle {P : L2.St → Hp → Prop} (k : Kn fr Γ Θ' P) (h : CLe Θ Θ') : Kn fr Γ Θ P := fun σ F H ok env => k σ F H (ok.cle h) env
theorem Rt.cle {rt : VK} {p : Vp} (k : Rt fr Θ' rt p) (h : CLe Θ Θ') : Rt fr Θ rt p := fun v F H ok hv => k v F H (ok.cle h) hv
theorem perm_set : ∀ {Θ : List Cel} {j : Nat} {c : Cel}, Θ[j]? = some c → ∃ Θr, Θ.Perm (c :: Θr) ∧ ∀ c', (Θ.set j c').Perm (c' :: Θr)
  | a :: Θ, 0, c, h => by
    have h : a = c := by simpa using h
    subst h
    exact ⟨Θ, .refl _, fun c' => .refl _⟩
  | a :: Θ, j + 1, c, h => by
    obtain ⟨Θr, h1, h2⟩ := perm_set (Θ := Θ) (j := j) (c := c) (by simpa using h)
    refine ⟨a :: Θr, (h1.cons a).trans (.swap _ _ _), fun c' => ?_⟩
    rw [List.set_cons_succ]
    exact ((h2 c').cons a).trans (.swap _ _ _)
def preKN (cost : Nat) (q : PreB) : PreC := fun ps Θ out err => ∃ b l N qs o, ps = zAt b :: qs ∧ Θ = [cBagC N b l] ∧ N + cost ≤ LIM ∧ q qs o ∧ out = (fun p Θ' => o p ∧ Θ' = [cBagC (N + cost) b l]) ∧ err = fun _ _ => False
theorem sps_KN {α β : Type} {args : α → List Vp} {r : Rep β} {m : α → DM β} {E : L2.St → XK} {ps : List Vp} {Q : β → Prop} {b l : Addr} {j N cost : Nat} (hj : Θ[j]? = some (cBagC N b l)) (hN : N + cost ≤ LIM) (x : α) (h : m x Q noX) (k : ∀ y, Q y → K (iz r y) (Θ.set j (cBagC (N + cost) b l))) (e : ps = zAt b :: args x := by rfl) : Sps fr Γ Θ (spC (preKN cost (preBW args r m))) E ps K := fun σ F H vs ok env hps Q' kq => by
  subst e
  obtain ⟨Θr, pm, pm2⟩ := perm_set hj
  have ok1 := ok.perm pm
  exact ⟨F, _, [cBagC N b l], _, _, ok1.fh, ok1.cellsAt, hps, ⟨b, l, N, _, _, rfl, rfl, hN, ⟨x, Q, rfl, h, rfl⟩, rfl, rfl⟩, fun p Θ' ⟨⟨y, hy, ep⟩, hΘ⟩ v F' H' ef hv => by
    subst hΘ ep
    exact kq _ _ (k y hy) v F' H' ef.ff ((ok1.eff ef).perm (pm2 _).symm) hv, fun e Θ' he => he.elim⟩
def RetKN {β : Type} (fr : Fr) (N : Nat) (b l : Addr) (Qv : VK) (r : Rep β) (Q : β → Prop) : Prop := ∀ y, Q y → ∀ Θ M, M ≤ N → cBagC M b l ∈ Θ → Rt fr Θ Qv (iz r y)
theorem RetKN.fine {β : Type} {N : Nat} {b l : Addr} {r : Rep β} {Q : β → Prop} (h : RetKN fr N b l Qv r Q) (le : FrLe fr fr') : RetKN fr' N b l Qv r Q := fun y hy Θ M hM hc => (h y hy Θ M hM hc).fine le
theorem kn_bagC {N : Nat} {b l : Addr} {j : Nat} {P : L2.St → Hp → Prop} (hj : Θ[j]? = some (cBagC N b l)) (k : ∀ (ns : List Int) (i c r : Int), 0 ≤ i → i ≤ (N : Int) → Kn fr Γ (Θ.set j (cBg b l ns [i, c, r])) P) : Kn fr Γ Θ P := fun σ F H ok env => by
  obtain ⟨_, ⟨o, h2, ns, i, c, r, h3, h4, h5⟩, _⟩ := ok.ce _ (List.mem_of_getElem? hj)
  obtain ⟨h6, h7, h8⟩ := h5
  subst h6
  have := ok.mut (c' := cBg b l ns [i, c, r]) (o := .lst (.ref l :: [i, c, r].map V.int)) hj rfl rfl ⟨rfl, h7, h8⟩
  have e : upd H (cBagC N b l).a (.lst (.ref l :: [i, c, r].map V.int)) = H := by
    funext a
    by_cases q : a = (cBagC N b l).a
    · rw [q, upd_same, h2]
    · rw [upd_ne q]
  rw [e] at this
  exact k ns i c r h3 h4 σ F H this env
theorem rt_bagC {N : Nat} {b l : Addr} {j : Nat} {ns : List Int} {i c r : Int} {rt : VK} {p : Vp} (hj : Θ[j]? = some (cBg b l ns [i, c, r])) (h1 : 0 ≤ i) (h2 : i ≤ (N : Int)) (k : Rt fr (Θ.set j (cBagC N b l)) rt p) : Rt fr Θ rt p := fun v F H ok hv => k v F H (ok.recell hj rfl rfl fun o ho => ⟨ns, i, c, r, h1, h2, ho⟩) hv
def preBagC (Kf : PySem.W.Frag) : PreN := fun ps out err => ∃ ns, ps = [iz (zScr Kf) ns] ∧ out = (fun p Θn => ∃ b l, p = zAt b ∧ Θn = [cBagC 0 b l]) ∧ err = noErr
theorem we_bagC {t : TA} (w : Wa fr Γ Θ t fun ps Θ1 => ∃ (ns : List Int) (c r : Int), ps = [iz (yL zI) ns, iz zI 0, iz zI c, iz zI r] ∧ ∀ b l, K (zAt b) (cBagC 0 b l :: Θ1)) : We fr Γ Θ (tLst t) K := fun σ F H ok env Q q =>
  w σ F H ok env _ fun ps Θ1 ⟨ns, c, r, e, k⟩ vs F1 H1 s1 ok1 hps => by
    subst e
    cases hps with
    | cons hl hi =>
      obtain ⟨⟨l, us, rfl, g2, g3⟩, g4⟩ := hl
      have e1 := pvs_I g3
      subst e1
      have e2 := pvs_I (pvs_map (r := zI) (xs := [0, c, r]) hi)
      subst e2
      refine ⟨?_, fun p np => q _ _ (k p l) _ F1 _ s1 (ok1.mkOwn (c := cBagC 0 p l) np rfl ⟨ns, 0, c, r, by decide, by decide, rfl, g2, g4⟩) rfl⟩
      exact Nat.le_of_lt (small1000 (show 4 ≤ 1000 by decide))
theorem kn_forK {wi : TI} {g : TG} {tb : TS} {D : Ends} {α S : Type} {r : Rep α} (G : S → Gam) (T : Nat → S → List Cel) (Te : S → List Cel) (s0 : S)
    (w : Wi fr Γ Θ wi fun its Θ1 => ∃ (xs : List α) (body : α → S → (S → Prop) → (S → Prop) → Prop) (after : S → Prop) (vs : List Nat) (Γ2 : α → S → Gam), its = xs.map (iz r) ∧ CLe Θ1 (T 0 s0) ∧ GLe Γ (G s0) ∧ (∀ x s, TgR g vs (iz r x) (G s) (Γ2 x s)) ∧ forD xs s0 body after ∧
      (∀ fr', FrLe fr fr' → ∀ i x s nx M, i < xs.length → (∀ s' Γ' Θ', nx s' → GLe Γ' (G s') → CLe Θ' (T (i + 1) s') → Kn fr' Γ' Θ' M) → (∀ s' Γ' Θ', after s' → GLe Γ' (G s') → CLe Θ' (Te s') → Kn fr' Γ' Θ' D.nx) → body x s nx after → Kn fr' (Γ2 x s) (T i s) (tb { D with nx := M, ct := M, bk := D.nx })) ∧
      (∀ s, CLe (T xs.length s) (Te s)) ∧ (∀ s, after s → Kn fr (G s) (Te s) D.nx)) : Kn fr Γ Θ (tFor wi g tb D) :=
  kn_for fun σ F H ok env R q => w σ F H ok env (fun J H' => R J H') fun its Θ1 ⟨xs, body, after, vs, Γ2, e1, e2, l0, tg, hf, hs, hte, hd⟩ J F1 H1 s1 ok1 jok => q its (T 0 s0) (by
    subst e1
    refine ⟨fun i Γ1 Θ2 => ∃ s, Γ1 = G s ∧ Θ2 = T i s ∧ forD (xs.drop i) s body after, ⟨G s0, l0, s0, rfl, rfl, hf⟩, fun fr' le i p Γ1 Θ2 hi ⟨s, eg, et, h⟩ => ?_, fun Γ1 Θ2 ⟨s, eg, et, h⟩ => ?_⟩
    · subst eg et
      obtain ⟨x, hx, rfl⟩ := get_izs hi
      have hlt : i < xs.length := (List.getElem?_eq_some_iff.mp hx).1
      rw [drop_at hx] at h
      refine ⟨vs, _, tg x s, hs fr' le i x s _ _ hlt (fun s' Γ' Θ' hn gl e => ?_) (fun s' Γ' Θ' hn gl e => ?_) h⟩
      · exact Kn.cle (kn_mid ⟨G s', gl, s', rfl, rfl, hn⟩) e
      · exact Kn.cle (((hd s' hn).fine le).le gl) e
    · subst eg et
      rw [List.length_map, List.drop_length] at h
      rw [List.length_map]
      exact (hd s h).cle (hte s)) J F1 H1 s1 (ok1.cle e2) jok
theorem kn_cutK {t u : TS} {D : Ends} {S : Type} (G : S → Gam) (T : S → List Cel) {f : (S → Prop) → Prop} {k : S → Prop} (h : joinD f k)
    (hb : ∀ M, (∀ s' Γ' Θ', k s' → GLe Γ' (G s') → CLe Θ' (T s') → Kn fr Γ' Θ' M) → f k → Kn fr Γ Θ (t { D with nx := M })) (hr : ∀ s, k s → Kn fr (G s) (T s) (u D)) : Kn fr Γ Θ (C8.tCut t u D) :=
  kn_cut (fun Γ Θ => ∃ s, Γ = G s ∧ Θ = T s ∧ k s) (hb _ (fun s' Γ' Θ' hn gl e => Kn.cle (kn_mid ⟨G s', gl, s', rfl, rfl, hn⟩) e) h) fun Γ Θ ⟨s, e1, e2, hk⟩ => by
    subst e1 e2
    exact hr s hk
end
section
variable {P : Program} {w : World} {K : PySem.W.Frag} {mg : Str → Option Value} {base : Heap} {x m qual : Str} {C : Addr} {st : Stmt} {N ps : List Str} {k : Nat} {α β : Type} {ef : HE → Er} {args : α → List Vp} {r : Rep β} {md : α → DM β} {cost : Nat}
theorem Src.okKN (F : Src K mg x st ps) (S : FnScope N ps (defScope st)) (len : ∀ x, (args x).length + 1 = ps.length)
    (hbody : ∀ (f : Addr) (cdv : Value) (A : Around) (outer : List Env) (s : Shared) (H : Hp) (E : XK) (b l : Addr) (n : Nat) (a : α) (Q : β → Prop), n + cost ≤ LIM → Room k (A.deeper (envOfC x (defScope st) s.heap.objs.size f cdv)) → md a Q noX →
      ∃ t, PSs (cxOf CX0 P w K mg base N x (defScope st) f cdv A outer s H E).nox (defBody st) t ∧ ∀ fr Qv, RetKN fr (n + cost) b l Qv r Q → Kn fr (envOf N (zAt b :: args a)) [cBagC n b l] (t { nx := fun _ H' => Qv .non H', rt := Qv })) : Def P w K mg base CX0 (k + 1) x ps (spC (preKN cost (preBW args r md))) :=
  F.okC S (fun qs Θ out err ⟨b, l, n, qs', o, h1, h2, _, ⟨a, Q, e, _⟩, _⟩ => ⟨by rw [h1, e]; exact len a, fun c hc => by rw [h2] at hc; rw [List.mem_singleton.mp hc]; rfl⟩) fun f cdv A outer s H E qs Θ out err hr ⟨b, l, n, qs', o, e1, e2, hn, ⟨a, Q, e3, h, e4⟩, e5, e6⟩ => by
    subst e1 e2 e3 e4 e5 e6
    obtain ⟨t, ht, hk⟩ := hbody f cdv A outer s H E b l n a Q hn hr h
    refine ⟨t, ht, fun fr Qv hret => hk fr Qv fun y hy Θ M hM hc v F' H' ok hv => ?_⟩
    obtain ⟨Θr, pm⟩ := perm_of_mem hc
    exact hret _ [cBagC (n + cost) b l] ⟨⟨y, hy, rfl⟩, rfl⟩ rfl (cBagC (n + cost) b l :: Θr) Θr (.refl _) v F' H' ((ok.perm pm).cle (.cons (.bag hM) (CLe.refl Θr))) hv
end
end L2
set_option Elab.async false
set_option linter.all false
set_option maxRecDepth 100000
set_option maxHeartbeats 4000000
namespace L2
open PySem PySem.Spec PyProof.Rows PySem.HErr
def keyT (k : List Int) : List Key := k.map Sum.inl
theorem keyT_inj {k l : List Int} (h : keyT k = keyT l) : k = l := by
  unfold keyT at h
  exact (List.map_inj_right (fun a b e => Sum.inl.inj e)).mp h
def KVT {α : Type} (r : Rep α) (F : Hp) (kvs : List (List Key × V)) (rows : List (List Int × α)) : Prop := Paired (fun (kv : List Key × V) (x : List Int × α) => kv.1 = keyT x.1 ∧ r.p F kv.2 x.2 ∧ x.1.length ≤ big) kvs rows
theorem KVT.mono {α : Type} {r : Rep α} {F F' : Hp} {kvs : List (List Key × V)} {rows : List (List Int × α)} (h : KVT r F kvs rows) (e : Same F F') : KVT r F' kvs rows := Paired.imp2 (fun _ _ ⟨h1, h2, h3⟩ => ⟨h1, r.mono e h2, h3⟩) h
def yDT {α : Type} (r : Rep α) : Rep (List (List Int × α)) := ⟨fun F v rows => (∃ a o kvs, v = .ref a ∧ F a = some (.frz o (.dT kvs)) ∧ KVT r F kvs rows) ∧ rows.length ≤ big, fun e ⟨⟨a, o, kvs, h1, h2, h3⟩, h4⟩ => ⟨⟨a, o, kvs, h1, e _ _ h2, h3.mono e⟩, h4⟩⟩
def getT {α : Type} (rows : List (List Int × α)) (n : List Int) : Option α := (rows.find? fun x => decide (x.1 = n)).map (·.2)
def putT {α : Type} (rows : List (List Int × α)) (n : List Int) (x : α) : List (List Int × α) := if n ∈ rows.map (·.1) then rows.map fun y => if y.1 = n then (y.1, x) else y else rows ++ [(n, x)]
section
variable {fr fr' : Fr} {Γ Γ' : Gam} {Θ Θ' : List Cel} {F F' H H' : Hp} {K : Vp → List Cel → Prop} {Qv : VK}
theorem KVT.val {α : Type} {r : Rep α} {kvs : List (List Key × V)} {rows : List (List Int × α)} (h : KVT r F kvs rows) (n : List Int) : (getT rows n = none → valV kvs (keyT n) = none) ∧ ∀ x, getT rows n = some x → ∃ v, valV kvs (keyT n) = some v ∧ r.p F v x := by
  unfold KVT at h
  induction h with
  | nil => exact ⟨fun _ => rfl, (fun x e => nomatch e)⟩
  | @cons kv x ks xs h t ih =>
    obtain ⟨h1, h2, _⟩ := h
    by_cases e : x.1 = n
    · have e1 : kv.1 = keyT n := by rw [h1, e]
      have e2 : getT (x :: xs) n = some x.2 := by unfold getT; rw [List.find?_cons, decide_eq_true e]; rfl
      rw [e2, valV_pos e1]
      exact ⟨(fun q => nomatch q), fun y hy => ⟨_, rfl, by cases hy; exact h2⟩⟩
    · have e1 : ¬ kv.1 = keyT n := fun q => by rw [h1] at q; exact e (keyT_inj q)
      have e2 : getT (x :: xs) n = getT xs n := by unfold getT; rw [List.find?_cons, decide_eq_false e]
      rw [e2, valV_neg e1]
      exact ih
theorem KVT.some {α : Type} {r : Rep α} {kvs : List (List Key × V)} {rows : List (List Int × α)} (h : KVT r F kvs rows) (n : List Int) : (valV kvs (keyT n)).isSome = (getT rows n).isSome := by
  obtain ⟨h1, h2⟩ := h.val n
  cases e : getT rows n with
  | none => rw [h1 e]; rfl
  | some x =>
    obtain ⟨v, h3, _⟩ := h2 x e
    rw [h3]; rfl
theorem KVT.put {α : Type} {r : Rep α} {kvs : List (List Key × V)} {rows : List (List Int × α)} {n : List Int} {x : α} {u : V} (h : KVT r F kvs rows) (hu : r.p F u x) (hl : n.length ≤ big) : KVT r F (putK kvs (keyT n) u) (putT rows n x) := by
  have hk : (kvs.any fun kv => decide (kv.1 = keyT n)) = decide (n ∈ rows.map (·.1)) := by
    unfold KVT at h
    induction h with
    | nil => rfl
    | cons a b ih =>
      rename_i kv y kvs rows
      rw [List.any_cons, ih, a.1, List.map_cons]
      by_cases e : y.1 = n
      · rw [decide_eq_true (by rw [e]), Bool.true_or, decide_eq_true (by rw [e]; exact List.mem_cons_self ..)]
      · rw [decide_eq_false (fun q => e (keyT_inj q)), Bool.false_or]
        by_cases e2 : n ∈ rows.map (·.1)
        · rw [decide_eq_true e2, decide_eq_true (List.mem_cons_of_mem _ e2)]
        · rw [decide_eq_false e2, decide_eq_false fun q => (List.mem_cons.mp q).elim (fun q => e q.symm) e2]
  unfold putK putT
  by_cases e : n ∈ rows.map (·.1)
  · rw [if_pos e, if_pos (by rw [hk]; exact decide_eq_true e)]
    clear hk e
    unfold KVT at h ⊢
    induction h with
    | nil => exact .nil
    | cons a b ih =>
      refine .cons ?_ ih
      rename_i kv y kvs rows
      dsimp only
      by_cases e : y.1 = n
      · rw [if_pos e, if_pos (by rw [a.1, e])]
        exact ⟨a.1, hu, a.2.2⟩
      · rw [if_neg e, if_neg (fun q => e (keyT_inj (a.1.symm.trans q)))]
        exact a
  · rw [if_neg e, if_neg (by rw [hk]; simpa using e)]
    exact PySem.Paired.snoc h ⟨rfl, hu, hl⟩
/-- one's own dict becomes a value: it is locked for ever -/
theorem eraseIdx_set {α : Type} (l : List α) (j : Nat) (x : α) : (l.set j x).eraseIdx j = l.eraseIdx j := by
  induction l generalizing j with
  | nil => rfl
  | cons y l ih =>
    cases j with
    | zero => rfl
    | succ j => exact congrArg (y :: ·) (ih j)
theorem set_sameO {α : Type} {l : List (Option α)} {i : Nat} {x : α} (h : l[i]? = some (some x)) : l.set i (some x) = l := by
  refine List.ext_getElem? fun n => ?_
  rw [List.getElem?_set]
  split
  · rename_i e
    subst e
    split
    · exact h.symm
    · rw [List.getElem?_eq_none (by omega)]
  · rfl
def cFz (a : Addr) (od : Obj) (o : HO) : Cel := ⟨a, true, fun _ u => u = .frz od o, fun _ h => h, fun h e => by rw [h] at e; cases e⟩
theorem OkF.lock {c : Cel} {j : Nat} {a : Addr} {o : HO} {od : Obj} (ok : OkF fr Θ F H) (hj : Θ[j]? = some c) (ha : c.a = a) (ho : c.own = true) (h : H a = some o) : F a = none ∧ Same F (upd F a (.frz od o)) ∧ OkF fr (Θ.eraseIdx j) (upd F a (.frz od o)) (upd H a (.frz od o)) := by
  subst ha
  have h0 := (ok.ce _ (List.mem_of_getElem? hj)).1
  refine ⟨h0, same_upd h0, ?_⟩
  have hlt : j < Θ.length := (List.getElem?_eq_some_iff.mp hj).1
  have ok1 := ok.mut (c' := cFz c.a od o) (o := .frz od o) hj rfl ho.symm rfl
  have ok2 := ok1.frz (i := j) (c := cFz c.a od o) (by rw [List.getElem?_set, if_pos rfl, if_pos hlt]) rfl (o := .frz od o) upd_same
  rw [eraseIdx_set] at ok2
  exact ok2
def tLk (t : TS) : TS := fun D σ H => ∃ d u, H d = some u ∧ Mut (some u) ∧ ∀ od, t D σ (upd H d (.frz od u))
theorem ps_lk {X : Cx} {st : Stmt} {t : TS} (h : PS X st t) : PS X st (tLk t) := by
  refine ⟨fun pins s σ H D I hw => ?_⟩
  obtain ⟨d, u, hd, mu, hw⟩ := hw
  obtain ⟨od, I1⟩ := I.lock hd mu
  exact h.run pins s σ _ _ I1 (hw od)
end
end L2
set_option Elab.async false
set_option linter.all false
set_option maxRecDepth 100000
set_option maxHeartbeats 4000000
namespace L2
open PySem PySem.Spec PyProof.Rows PySem.HErr
def foldR {α β : Type} (kx : α → Str) (f : α → β) (xs : List α) : List (Str × β) := xs.foldl (fun rows x => putR rows (kx x) (f x)) []
theorem foldR_snoc {α β : Type} {kx : α → Str} {f : α → β} {xs : List α} {x : α} : foldR kx f (xs ++ [x]) = putR (foldR kx f xs) (kx x) (f x) := by
  unfold foldR
  rw [List.foldl_append]
  rfl
theorem foldR_len {α β : Type} {kx : α → Str} {f : α → β} (xs : List α) : (foldR kx f xs).length ≤ xs.length := by
  have : ∀ (xs : List α) (acc : List (Str × β)), (xs.foldl (fun rows x => putR rows (kx x) (f x)) acc).length ≤ acc.length + xs.length := by
    intro xs
    induction xs with
    | nil => intro acc; exact Nat.le_refl _
    | cons x xs ih =>
      intro acc
      have h1 := ih (putR acc (kx x) (f x))
      have h2 := putR_len acc (kx x) (f x)
      rw [List.foldl_cons, List.length_cons]
      omega
  have h := this xs []
  rw [List.length_nil, Nat.zero_add] at h
  exact h
end L2
set_option Elab.async false
set_option linter.all false
set_option maxRecDepth 100000
set_option maxHeartbeats 4000000
namespace L2
open PySem PySem.Spec PyProof.Rows PySem.HErr
section
variable {fr fr' : Fr} {Γ Γ' : Gam} {Θ Θ' : List Cel} {F F' H H' : Hp} {K : Vp → List Cel → Prop} {Qv : VK}
theorem Mts.le {r : V → List V → Hp → VK → Prop} {p p' : Vp} {ps : List Vp} (w : Mts fr Θ r p' ps K) (h : p.Le p') : Mts fr Θ r p ps K := fun F H v vs ok a b Q k => w F H v vs ok (h _ _ a) b Q k
end
end L2
set_option Elab.async false
set_option linter.all false
set_option maxRecDepth 100000
set_option maxHeartbeats 4000000
namespace L2
open PySem PySem.Spec PyProof.Rows PySem.HErr
class XBack {α : Type} (r : Rep α) [d : XDat r] : Prop where
  bk : ∀ {F : Hp} {v : V} {x : α}, xp F (d.enc x) v → (d.enc x).depth ≤ 60 → r.p F v x
instance : XBack yX := ⟨fun h hd => ⟨h, hd⟩⟩
instance : XBack zI := ⟨fun h _ => by simp only [XDat.enc, xp] at h; exact h⟩
instance : XBack yS := ⟨fun h _ => by simp only [XDat.enc, xp] at h; exact ⟨⟨h.1, h.2.1⟩, h.2.2⟩⟩
theorem xpAll_back {α : Type} {r : Rep α} [d : XDat r] [b : XBack r] {F : Hp} : ∀ {xs : List α} {vs : List V}, xpAll F (xs.map d.enc) vs → (∀ x ∈ xs, (d.enc x).depth ≤ 60) → PVs r F vs xs
  | [], vs, h, _ => by
    simp only [List.map_nil, xpAll] at h
    subst h
    exact .nil
  | x :: xs, vs, h, hd => by
    simp only [List.map_cons, xpAll] at h
    obtain ⟨v, r', rfl, h1, h2⟩ := h
    exact .cons (b.bk h1 (hd x (List.mem_cons_self ..))) (xpAll_back h2 fun y hy => hd y (List.mem_cons_of_mem _ hy))
instance {α : Type} {r : Rep α} [d : XDat r] [b : XBack r] : XBack (yL r) := ⟨fun {F v xs} h hd => by
  have hx : (iz yX (.list (xs.map d.enc))).p F v := ⟨h, hd⟩
  simp only [XDat.enc, xp] at h
  obtain ⟨a, vs, h1, h2, h3, h4⟩ := h
  refine ⟨⟨a, vs, h1, h2, xpAll_back h4 fun x hx => ?_⟩, by rw [List.length_map] at h3; exact h3⟩
  simp only [XDat.enc, PyData.depth] at hd
  exact depth_mem (n := 60) (by omega) (List.mem_map.mpr ⟨x, hx, rfl⟩)⟩
class XNar2 {α : Type} [TNar α] (r : Rep α) [XDat r] : Prop where
  nx : ∀ xs : List α, TNar.nar (xs.map (XDat.enc (r := r))) = true ∨ TNar.nar (xs.map (XDat.enc (r := r))) = TNar.nar xs
instance : XNar2 yS := ⟨fun xs => .inr (by show (!isSDs (xs.map PyData.str)) = xs.isEmpty; rw [isSDs_strs, Bool.not_not])⟩
instance : XNar2 yX := ⟨fun xs => .inr (by rw [show (XDat.enc (r := yX)) = id from rfl, List.map_id])⟩
/-- data that is no word -/
class XNoS {α : Type} (r : Rep α) [XDat r] : Prop where
  ns : ∀ x, isSD (XDat.enc (r := r) x) = false
instance : XNoS zI := ⟨fun _ => rfl⟩
instance {α : Type} {r : Rep α} [XDat r] : XNoS (yL r) := ⟨fun _ => rfl⟩
instance {α : Type} [TNar α] {r : Rep α} [XDat r] [XNar r] : XNoS (yT r) := ⟨fun _ => rfl⟩
instance {α : Type} {r : Rep α} [XDat r] : XNoS (z1 r) := ⟨fun _ => rfl⟩
instance {α β : Type} {r : Rep α} {s : Rep β} [XDat r] [XDat s] : XNoS (z2 r s) := ⟨fun _ => rfl⟩
instance {α β γ : Type} {r : Rep α} {s : Rep β} {t : Rep γ} [XDat r] [XDat s] [XDat t] : XNoS (z3 r s t) := ⟨fun _ => rfl⟩
instance {α : Type} [TNar α] {r : Rep α} [d : XDat r] [k : XNoS r] : XNar2 r := ⟨fun xs => .inl (by
  show (!isSDs (xs.map d.enc)) = true
  cases xs with
  | nil => rfl
  | cons y ys => exact congrArg (fun b => !b) (isSDs_no (ds := (y :: ys).map d.enc) (List.mem_map.mpr ⟨y, List.mem_cons_self .., rfl⟩) (k.ns y)))⟩
theorem XNar2.tup {α : Type} [TNar α] {r : Rep α} [XDat r] [k : XNar2 r] {F : Hp} {a : Addr} {vs : List V} {xs : List α} (h : TupB (TNar.nar (xs.map (XDat.enc (r := r)))) F a vs) : TupB (TNar.nar xs) F a vs := (k.nx xs).elim (fun e => .inl (h.nar e)) fun e => by rw [← e]; exact h
instance {α : Type} [TNar α] {r : Rep α} [d : XDat r] [XNar r] [XNar2 r] [b : XBack r] : XBack (yT r) := ⟨fun {F v xs} h hd => by
  simp only [XDat.enc, xp] at h
  obtain ⟨a, vs, h1, h2, h3, h4⟩ := h
  refine ⟨⟨a, vs, h1, XNar2.tup h2, xpAll_back h4 fun x hx => ?_⟩, by rw [List.length_map] at h3; exact h3⟩
  simp only [XDat.enc, PyData.depth] at hd
  exact depth_mem (n := 60) (by omega) (List.mem_map.mpr ⟨x, hx, rfl⟩)⟩
def SqF (F : Hp) (a : Addr) (vs : List V) : Prop := F a = some (.lst vs) ∨ F a = some (.tup vs) ∨ ∃ o, F a = some (.frz o (.tup vs))
theorem SqF.mono {F F' : Hp} {a : Addr} {vs : List V} (e : Same F F') (h : SqF F a vs) : SqF F' a vs := h.elim (fun h => .inl (e _ _ h)) fun h => .inr (h.elim (fun h => .inl (e _ _ h)) fun ⟨o, h⟩ => .inr ⟨o, e _ _ h⟩)
theorem SqF.rd {F : Hp} {a : Addr} {vs : List V} (h : SqF F a vs) : Rd F a (.lst vs) ∨ Rd F a (.tup vs) := h.elim (fun h => .inl (.inl h)) fun h => .inr (h.elim .inl .inr)
def ySq {α : Type} (r : Rep α) : Rep (List α) := ⟨fun F v xs => (∃ a vs, v = .ref a ∧ SqF F a vs ∧ PVs r F vs xs) ∧ xs.length ≤ big, fun e ⟨⟨a, vs, h1, h2, h3⟩, h4⟩ => ⟨⟨a, vs, h1, h2.mono e, Paired.imp2 (fun _ _ h => r.mono e h) h3⟩, h4⟩⟩
section
variable {fr fr' : Fr} {Γ Γ' : Gam} {Θ Θ' : List Cel} {F F' H H' : Hp} {K : Vp → List Cel → Prop} {Qv : VK}
theorem SqF.up {a : Addr} {vs : List V} (fh : Same F H) (h : SqF F a vs) : Rd H a (.lst vs) ∨ Rd H a (.tup vs) := (h.mono fh).rd
end
theorem un65 {k : Nat} {A : Around} (r : Room k A) : A.units + 65 < cLine := by
  have := un200 r
  omega
instance {α : Type} {r : Rep α} : NotNon (yDT r) := ⟨fun F v x ⟨⟨a, o, kvs, h, _⟩, _⟩ => by rw [h]; exact fun q => by cases q⟩
instance {α : Type} {r : Rep α} : NotNon (ySq r) := ⟨fun F v x ⟨⟨a, vs, h, _⟩, _⟩ => by rw [h]; exact fun q => by cases q⟩
instance {α β γ δ ε : Type} {r : Rep α} {s : Rep β} {t : Rep γ} {u : Rep δ} {o : Rep ε} [d : XDat r] [e : XDat s] [f : XDat t] [g : XDat u] [l : XDat o] : XDat (z5 r s t u o) := ⟨fun x => .tuple [d.enc x.1, e.enc x.2.1, f.enc x.2.2.1, g.enc x.2.2.2.1, l.enc x.2.2.2.2], max d.dep (max e.dep (max f.dep (max g.dep l.dep))) + 1, fun ⟨a, v1, v2, v3, v4, v5, h1, h2, h3, h4, h5, h6, h7⟩ => by
  refine ⟨?_, ?_⟩
  · simp only [xp]
    exact ⟨a, _, h1, .inl h2, by show 5 ≤ 100000; decide, by simp only [xpAll]; exact ⟨_, _, rfl, (d.xd h3).1, _, _, rfl, (e.xd h4).1, _, _, rfl, (f.xd h5).1, _, _, rfl, (g.xd h6).1, _, _, rfl, (l.xd h7).1, rfl⟩⟩
  · have := (d.xd h3).2
    have := (e.xd h4).2
    have := (f.xd h5).2
    have := (g.xd h6).2
    have := (l.xd h7).2
    simp only [PyData.depth, PyData.depthAll]
    omega⟩
instance {α β γ δ ε : Type} {r : Rep α} {s : Rep β} {t : Rep γ} {u : Rep δ} {o : Rep ε} [XDat r] [XDat s] [XDat t] [XDat u] [XDat o] : PDat (z5 r s t u o) := ⟨fun _ => rfl⟩
instance {α β γ δ : Type} {r : Rep α} {s : Rep β} {t : Rep γ} {u : Rep δ} [d : Dat r] [e : Dat s] [f : Dat t] [g : Dat u] : Dat (z4 r s t u) := ⟨fun x => .tuple [d.enc x.1, e.enc x.2.1, f.enc x.2.2.1, g.enc x.2.2.2], d.dep + e.dep + f.dep + g.dep + 1, fun ⟨a, v1, v2, v3, v4, h1, h2, h3, h4, h5, h6⟩ => by subst h1; exact .tup (SqT.of h2) (.cons (d.dp h3) (.cons (e.dp h4) (.cons (f.dp h5) (.cons (g.dp h6) .nil)))),
  fun ⟨a, v1, v2, v3, v4, h1, h2, h3, h4, h5, h6⟩ => by show (nb _ && (nb _ && (nb _ && (nb _ && true)))) = true; rw [d.ok h3, e.ok h4, f.ok h5, g.ok h6]; rfl, fun x => by
    have h1 := d.dl x.1
    have h2 := e.dl x.2.1
    have h3 := f.dl x.2.2.1
    have h4 := g.dl x.2.2.2
    simp only [PyData.depth, PyData.depthAll]
    omega, fun {x y} h => by
    have h := PyData.tuple.inj h
    rw [List.cons.injEq, List.cons.injEq, List.cons.injEq, List.cons.injEq] at h
    exact Prod.ext (d.inj h.1) (Prod.ext (e.inj h.2.1) (Prod.ext (f.inj h.2.2.1) (g.inj h.2.2.2.1)))⟩
end L2
set_option Elab.async false
set_option linter.all false
set_option maxRecDepth 100000
set_option maxHeartbeats 4000000
namespace L2
open PySem PySem.Spec PyProof.Rows PySem.HErr
section
variable {fr fr' : Fr} {Γ Γ' : Gam} {Θ Θ' Θr : List Cel} {F F' H H' : Hp} {K : Vp → List Cel → Prop} {Qv : VK}
theorem perm_at {j : Nat} {c : Cel} (hj : Θ[j]? = some c) : Θ.Perm (c :: Θ.eraseIdx j) := by
  induction Θ generalizing j with
  | nil => cases hj
  | cons d Θ ih =>
    cases j with
    | zero => cases hj; exact .refl _
    | succ j => exact ((ih hj).cons d).trans (.swap c d _)
/-- what a def with lent cells returns -/
def RetL {β γ : Type} (fr : Fr) (Qv : VK) (r : Rep β) (cout : γ → List Cel) (Q : β × γ → Prop) : Prop := ∀ y g, Q (y, g) → ∀ Θ'' Θx, Θ''.Perm (cout g ++ Θx) → Rt fr Θ'' Qv (iz r y)
theorem RetL.fine {β γ : Type} {r : Rep β} {cout : γ → List Cel} {Q : β × γ → Prop} (h : RetL fr Qv r cout Q) (l : FrLe fr fr') : RetL fr' Qv r cout Q := fun y g hq Θ'' Θx pm => (h y g hq Θ'' Θx pm).fine l
/-- an error may leave: the cells hold something -/
def RseL {γ : Type} (fr : Fr) (E : XK) (ef : HE → Er) (cout : γ → List Cel) (X : HE → Prop) : Prop := ∀ z, X z → ∀ g Θ'' Θx, Θ''.Perm (cout g ++ Θx) → ∀ Γ, Kr fr Γ Θ'' (fun cls d _ H => E cls d H) (ef z)
theorem RseL.fine {γ : Type} {E : XK} {ef : HE → Er} {cout : γ → List Cel} {X : HE → Prop} (h : RseL fr E ef cout X) (l : FrLe fr fr') : RseL fr' E ef cout X := fun z hz g Θ'' Θx pm Γ σ F H ok env d us hd hf => h z hz g Θ'' Θx pm Γ σ F H (ok.le l) env d us hd hf
/-- a frozen instance of the class at C, its fields as g tells -/
def zIn {α : Type} (C : Addr) (g : α → List (Str × Vp)) : Rep α := ⟨fun F v x => ∃ a dx us, v = .ref a ∧ F a = some (.ins C dx us) ∧ FsOk F (g x) us, fun e ⟨a, dx, us, h1, h2, h3⟩ => ⟨a, dx, us, h1, e _ _ h2, h3.mono e⟩⟩
instance {α : Type} {C : Addr} {g : α → List (Str × Vp)} : NotNon (zIn C g) := ⟨fun F v x ⟨a, dx, us, h, _⟩ => by rw [h]; exact fun q => by cases q⟩
/-- the class at C stands, and has none of the fields' names -/
structure ClsF (K : PySem.W.Frag) (C : Addr) (fs : List Str) : Prop where
  cl : Cls K C
  no : ∀ f ∈ fs, NoAttr K C f
theorem fld_in {Kf : PySem.W.Frag} {α : Type} {C : Addr} {g : α → List (Str × Vp)} {x : α} {f : Str} {fs : List Str} {q : Vp} (T : ClsF Kf C fs) (hf : f ∈ fs) (h : (g x).lookup f = some q) : FldP fr Θ Kf f (iz (zIn C g) x) q := fun F H v ok ⟨a, dx, us, h1, h2, h3⟩ => by
  obtain ⟨u, h4, h5⟩ := h3.look h
  exact ⟨a, C, dx, us, u, h1, ok.fh _ _ h2, T.cl, T.no f hf, h4, h5⟩
theorem fs_none {F : Hp} {m : Str} : ∀ {fs : List (Str × Vp)} {us : List (Str × V)}, FsOk F fs us → fs.lookup m = none → us.lookup m = none
  | _, _, .nil, _ => rfl
  | (f, p) :: fs, (g, u) :: us, .cons ⟨h1, _⟩ r, h => by
    have h1 : f = g := h1
    subst h1
    rw [List.lookup_cons] at h ⊢
    split at h
    · cases h
    · exact fs_none r h
theorem ins_in {α : Type} {C : Addr} {g : α → List (Str × Vp)} {x : α} {m : Str} (h : (g x).lookup m = none) : InsP fr Θ (iz (zIn C g) x) C m := fun F H v ok ⟨a, dx, us, h1, h2, h3⟩ => ⟨a, dx, us, h1, ok.fh _ _ h2, fs_none h3 h⟩
/-- self.f = e, of one's own instance -/
theorem kn_putF {Kf : PySem.W.Frag} {f : Str} {fs : List Str} {ta tv : TE} {D : Ends} {C : Addr} (T : ClsF Kf C fs) (hf : f ∈ fs) (w : We fr Γ Θ tv fun p Θ1 => We fr Γ Θ1 ta fun q Θ2 => ∃ a dx fl j, q = zAt a ∧ Θ2[j]? = some (cI a C dx fl) ∧ fl.length < 1000 ∧ Kn fr Γ (Θ2.set j (cI a C dx (putP f p fl))) D.nx) : Kn fr Γ Θ (sFld Kf ta tv f D) :=
  kn_fldPut (w.imp fun p Θ1 h => h.imp fun q Θ2 ⟨a, dx, fl, j, e, hj, hl, k⟩ => ⟨a, C, dx, fl, j, e, hj, T.cl, T.no f hf, hl, k⟩)
/-- one's own list in a field is frozen -/
theorem FsOk.at {F : Hp} {fl : List (Str × Vp)} {us : List (Str × V)} (h : FsOk F fl us) {k : Nat} {f : Str} {p q : Vp} (hk : fl[k]? = some (f, p)) (hq : ∀ v, p.p F v → q.p F v) : FsOk F (fl.set k (f, q)) us := by
  induction h generalizing k with
  | nil => cases hk
  | cons a b ih =>
    cases k with
    | zero =>
      cases hk
      exact .cons ⟨a.1, hq _ a.2⟩ b
    | succ k => exact .cons a (ih hk)
theorem okf_cI {a C dx : Addr} {fl fl' : List (Str × Vp)} {i : Nat} (ok : OkF fr Θ F H) (hi : Θ[i]? = some (cI a C dx fl)) (h : ∀ us, FsOk F fl us → FsOk F fl' us) : OkF fr (Θ.set i (cI a C dx fl')) F H := by
  have hm := List.mem_of_getElem? hi
  obtain ⟨h1, ⟨o, h2, us, rfl, h4⟩, h5⟩ := ok.ce _ hm
  have := ok.mut (c' := cI a C dx fl') (o := .ins C dx us) hi rfl rfl ⟨us, rfl, h us h4⟩
  have e : upd H (cI a C dx fl).a (.ins C dx us) = H := by
    funext b
    by_cases q : b = a
    · rw [q]; exact (upd_same (a := a)).trans h2.symm
    · exact upd_ne q
  rw [e] at this
  exact this
theorem set_erase {α : Type} : ∀ {l : List α} {i j : Nat} {x c : α}, i ≠ j → l[i]? = some c → ∃ i2, (l.eraseIdx j)[i2]? = some c ∧ (l.eraseIdx j).set i2 x = (l.set i x).eraseIdx j
  | [], _, _, _, _, _, h => nomatch h
  | d :: l, 0, 0, _, _, h, _ => absurd rfl h
  | d :: l, 0, j + 1, x, c, _, h => ⟨0, h, rfl⟩
  | d :: l, i + 1, 0, x, c, _, h => ⟨i, h, rfl⟩
  | d :: l, i + 1, j + 1, x, c, hn, h => by
    obtain ⟨i2, h1, h2⟩ := set_erase (l := l) (i := i) (j := j) (x := x) (c := c) (by omega) h
    exact ⟨i2 + 1, h1, congrArg (d :: ·) h2⟩
theorem pss_lkE {X : Cx} {ss : List Stmt} {t : TS} (h : PSs X ss t) : PSs X ss (tLk t) := by
  refine ⟨fun pins s σ H D I hw => ?_⟩
  obtain ⟨d, u, hd, mu, hw⟩ := hw
  obtain ⟨od, I1⟩ := I.lock hd mu
  exact h.run pins s σ _ _ I1 (hw od)
/-- what __init__ is to end with -/
def InitW {α : Type} (fr : Fr) (x C : Addr) (g : α → List (Str × Vp)) (Qn : L2.St → Hp → Prop) (Q : α → Prop) : Prop := ∀ y, Q y → ∀ (Γ : Gam) (Θ : List Cel) (i : Nat) (dx : Addr), Θ[i]? = some (cI x C dx (g y)) → Kn fr Γ Θ Qn
end
section
variable {P : Program} {w : World} {K : PySem.W.Frag} {mg : Str → Option Value} {base : Heap} {x m qual : Str} {C : Addr} {st : Stmt} {N ps : List Str} {k : Nat} {α β γ : Type} {ef : HE → Er} {args : List Addr → α → List Vp} {cin : List Addr → α → List Cel} {cout : List Addr → α → γ → List Cel} {r : Rep β} {md : α → DM (β × γ)}
theorem SrcI.okW {α β : Type} {args : α → List Vp} {md : α → DM β} {g : β → List (Str × Vp)} (F : SrcI K C qual st ps) (S : FnScope N ps (defScope st)) (len : ∀ x, (args x).length + 1 = ps.length)
    (hbody : ∀ (f : Addr) (cdv : Value) (A : Around) (outer : List Env) (s : Shared) (H : Hp) (E : XK) (a : α) (Q : β → Prop) (X : HE → Prop), Room k (A.deeper (envOfC qual (defScope st) s.heap.objs.size f cdv)) → md a Q X →
      ∃ t, PSs (cxOf (L2.CX P w) P w K mg base N qual (defScope st) f cdv A outer s H E) (defBody st) t ∧ ∀ fr x dx (Qn : L2.St → Hp → Prop) (rt : VK), InitW fr x C g Qn Q → RseW fr E ef X → Kn fr (envOf N (zAt x :: args a)) [cI x C dx []] (t { nx := Qn, rt := rt })) : DefI P w K mg base (L2.CX P w) (k + 1) C ps (spI C (preW ef args (zIn C g) md)) :=
  F.okAX S (fun qs out err ⟨a, Q, X, e, _⟩ => by rw [e]; exact len a) fun f cdv A outer s H E qs out err hr ⟨a, Q, X, e1, h, e2, e3⟩ => by
    subst e1 e2 e3
    obtain ⟨t, ht, hk⟩ := hbody f cdv A outer s H E a Q X hr h
    refine ⟨t, ht, fun fr x dx Qn rt hq hrt hrse => hk fr x dx Qn rt (fun y hy Γ Θ i dx' hi σ F' H' ok env => ?_) fun z hz Γ Θ => kr_E hrse ⟨z, hz, rfl⟩⟩
    obtain ⟨h1, ⟨o, h2, us, rfl, h4⟩, h5⟩ := ok.ce _ (List.mem_of_getElem? hi)
    have ok2 := ok.frz hi rfl h2
    have sF : Same F' (upd F' x (.ins C dx' us)) := same_upd h1
    exact hq _ ⟨y, hy, rfl⟩ σ _ H' ⟨_, ok2⟩ ⟨x, dx', us, rfl, upd_same, h4.mono sF⟩
end
end L2
set_option Elab.async false
set_option linter.all false
set_option maxRecDepth 100000
set_option maxHeartbeats 4000000
namespace L2
open PySem PySem.Spec PyProof.Rows PySem.HErr
open PySem.W (findIn isFn selfFirst subIn)
/-- what a comparison of the class at C asks -/
structure CmpC (K : PySem.W.Frag) (C : Addr) : Prop where
  si : subIn K (.type "int") (.ref C) = some false
  is : subIn K (.ref C) (.type "int") = some false
def tSp1 (C : Addr) (sp : Sp) (E : St → XK) (ta : TE) : TE := fun σ H Q => ta σ H fun x H1 => ∃ a dx fs, x = .ref a ∧ H1 a = some (.ins C dx fs) ∧ sp [.ref a] H1 Q (E σ)
section
variable {X : Cx} {CX : CXT} {k : Nat} {C : Addr} {ps : List Str} {sp : Sp} {E : St → XK} {R : V → Prop} {l r : Expr} {ta tb : TE} {pos : Pos} {m : Str}
theorem pe_neg2 (D : DefM X.prog X.w X.K X.mg X.base CX k C "__neg__" ps sp) (hr : Room k X.A) (hx : ∀ σ, PassesAt CX X σ (E σ)) (hl : PE X l ta) : PE X (.UnaryOp .USub l pos) (tSp1 C sp E ta) := by
  obtain ⟨f, fd, hlk, hm, hb, F⟩ := D.ex
  refine ⟨fun pins s σ H Q I h => UnaryOp_ ?_⟩
  refine thn (hl.run pins s σ H _ I h) fun iv s1 ⟨x, H1, I1, rx, a, dx, fs, ex, ea, q1⟩ => ?_
  subst ex
  obtain rfl : iv = Value.ref a := rx
  obtain ⟨mA, O1, _⟩ := ins_get I1.hok ea
  unfold unaryOp
  refine wpAny_holding ?_
  refine wpAny_bind (special_own I1.kIn O1 hm (wpAny_mono (run_fnS (us := [.ref a]) (vs := [.ref a]) F hr hb (hx σ) I1 (.cons rfl .nil) q1) (fun v s' z => wpAny_pure z) fun _ _ z => z))
end
/-- what such a call is of: an instance of the class at C -/
def rSp1 (C : Addr) (sp : Sp) (E : XK) (R : V → Prop) : List V → Hp → VK → Prop := fun xs H Q => ∃ a dx fs, xs = [.ref a] ∧ H a = some (.ins C dx fs) ∧ sp [.ref a] H (fun v H2 => R v ∧ Q v H2) E
section
variable {X : Cx} {CX : CXT} {k : Nat} {C : Addr} {ps : List Str} {sp : Sp} {E : XK}
theorem Room.in2 {A : Around} (r : Room (k + 1) A) : Room k A.in1.in1 := ⟨r.hd, by have := r.dp; show A.depth + 3 * k + 5 < _; omega, by have := r.un; show A.units + 1 + 1 + 16 * k + 200 < _; omega⟩
theorem run_fnS2 {pins : List (Addr × Obj)} {σ : St} {H : Hp} {s : Shared} {Q : VK} {f : Addr} {fd : FuncData} {us : List Value} {vs : List V} (F : FnOk X.prog X.w X.K X.mg X.base CX k f fd ps sp) (hr : Room (k + 1) X.A) (hb : Binds X.K fd ps []) (hx : PassesAt CX X σ E)
    (I : Inv X pins σ H s) (r : Vals vs us) (h : sp vs H Q E) : wpAny (model X.prog X.w) X.A.in1.in1 (call (.ref f) us) (EP X pins σ Q) X.xe s := by
  have hl : us.length = ps.length := by rw [← r.length]; exact F.len _ _ _ _ h
  have b := hb s us I.kIn (by rw [List.append_nil]; exact hl)
  rw [List.append_nil] at b
  refine wpAny_call (codeAny_mono (F.run X.A.in1.in1 X.stack s H ⟨us, []⟩ us vs Q E hr.in2 I.env0.in1.in1 b r h) fun r s' hq => ?_)
  cases r with
  | error e => exact hx pins H s e s' I hq
  | ok fl =>
    cases fl with
    | ret u => exact I.after hq
    | next => exact False.elim hq
    | brk => exact False.elim hq
    | cont => exact False.elim hq
theorem call_absO (D : DefM X.prog X.w X.K X.mg X.base CX k C "__abs__" ps sp) (hr : Room (k + 1) X.A) (hx : ∀ σ, PassesAt CX X σ E) : CallR X (.builtin "abs") (rSp1 C sp E fun _ => True) := by
  obtain ⟨f, fd, hlk, hm, hb, F⟩ := D.ex
  intro pins s σ H xs us Q I r h
  obtain ⟨a, dx, fs, rfl, ea, q⟩ := h
  obtain ⟨u, rfl, ru⟩ := vals1 r
  cases ru
  obtain ⟨mA, O, _⟩ := ins_get I.hok ea
  refine Calls.call_function_entry kind_abs plain_abs entry_abs (args_abs _) ?_
  unfold Builtin.«abs»
  refine wpAny_bind (wpAny_pure ?_)
  refine wpAny_bind (m := callSpecial? (.ref a) (Str.ofString "__abs__")) (special_own I.kIn O hm (wpAny_mono (run_fnS1 (E := fun _ => E) (us := [.ref a]) (vs := [.ref a]) F hr hb (hx σ) I (.cons rfl .nil) q) (fun v s' ⟨z, H3, I3, rz, _, q3⟩ => ?_) fun _ _ z => z))
  exact wpAny_pure ⟨_, rfl, z, H3, I3, rz, q3⟩
open Builtin in
theorem call_boolO (D : DefM X.prog X.w X.K X.mg X.base CX k C "__bool__" ps sp) (hr : Room (k + 1) X.A) (hx : ∀ σ, PassesAt CX X σ E) : CallR X (.type "bool") (rSp1 C sp E fun v => ∃ z, v = .bl z) := by
  obtain ⟨f, fd, hlk, hm, hb, F⟩ := D.ex
  intro pins s σ H xs us Q I r h
  obtain ⟨a, dx, fs, rfl, ea, q⟩ := h
  obtain ⟨u, rfl, ru⟩ := vals1 r
  cases ru
  obtain ⟨mA, O, _⟩ := ins_get I.hok ea
  have run := run_fnS2 (us := [.ref a]) (vs := [.ref a]) F hr hb (hx σ) I (.cons rfl .nil) q
  have tru : wpAny (model X.prog X.w) X.A.in1.in1 (truthy (.ref a)) (fun b s₁ => EP X pins σ Q (.bool b) s₁) X.xe s := by
    unfold truthy
    refine wpAny_bind (m := callSpecial? (.ref a) (Str.ofString "__bool__")) (special_own I.kIn O hm (wpAny_mono run (fun v s' ⟨z, H3, I3, rz, ⟨b, eb⟩, q3⟩ => ?_) fun _ _ z => z))
    subst eb
    cases rz
    exact wpAny_pure ⟨.bl b, H3, I3, rfl, q3⟩
  refine callType_codes (T := "bool") (Bi := Builtin.«object.__init__») (Q₁ := fun r s₁ => ∃ y, r = .bool y ∧ EP X pins σ Q r s₁) PySem.F.called_bool (PySem.F.typeCall_bool_1 _) PySem.F.entry_object_init ?_ ?_
  · refine codeAny_of_tree ?_
    show wpAny _ X.A.in1.in1 (do checkBuiltinCall "bool.__new__" ⟨[.type "bool", .ref a], []⟩; again (.builtin "bool.__new__" ⟨[.type "bool", .ref a], []⟩)) _ _ s
    refine wpAny_bind (wpAny_of_eq (PySem.F.newCall_bool_1 _) (wpAny_pure ⟨plainId_quiet (by decide +kernel) _, codeAny_builtin PySem.F.entry_bool_new ?_⟩))
    rw [Around.under_plainId (by decide +kernel) _]
    unfold Builtin.«bool.__new__»
    refine wpAny_bind (wpAny_pure ?_)
    refine wpAny_bind (wpAny_of_eq (a := true) PySem.F.conv_sub_bool ?_)
    refine wpAny_bind (m := someArgs _ _ _ _) (wpAny_pure ?_)
    refine wpAny_bind (wpAny_mono tru (fun b s₁ h => wpAny_pure ⟨b, rfl, h⟩) fun _ _ y => y)
  · rintro obj s₁ ⟨y, rfl, hq⟩
    exact ⟨PySem.typeIs_bool _ _, PySem.F.args_object_init_2 _ _, object_init_meets PySem.F.called_bool.init.lookup PySem.F.called_bool.made (by decide) X.prog X.w X.A.in1 _ s₁ ⟨PySem.typeIs_bool _ _, rfl, hq⟩⟩
end
end L2
set_option Elab.async false
set_option linter.all false
set_option maxRecDepth 100000
set_option maxHeartbeats 4000000
namespace L2
open PySem PySem.Spec PyProof.Rows PySem.HErr
open PySem.W (findIn isFn)
section
variable {fr : Fr} {Γ Γ' : Gam} {Θ : List Cel} {F F' H H' : Hp} {K : Vp → List Cel → Prop} {Q : VK} {C : Addr} {sp : Sp} {E : L2.St → XK} {R : V → Prop} {ta tb : TE}
def RP (R : V → Prop) (r : Vp) : Prop := ∀ F v, r.p F v → R v
theorem rp_T {r : Vp} : RP (fun _ => True) r := fun _ _ _ => True.intro
theorem we_sp1 (w : We fr Γ Θ ta fun p Θ1 => InsC fr Θ1 p C ∧ Sps fr Γ Θ1 sp E [p] K) : We fr Γ Θ (tSp1 C sp E ta) K := fun σ F H ok env Q k =>
  w σ F H ok env _ fun p Θ1 ⟨ic, w1⟩ x F1 H1 s1 ok1 hx => by
    obtain ⟨a, dx, fs, rfl, h2⟩ := ic F1 H1 x ok1 hx
    exact ⟨a, dx, fs, rfl, h2, w1 σ F1 H1 _ ok1 (env.mono s1) (.cons hx .nil) _ fun r Θ3 kk v F3 H3 s3 ok3 hv => k _ Θ3 kk _ F3 H3 (s1.trans s3) ok3 hv⟩
theorem cb_sp1 {E : XK} {p : Vp} (ic : InsC fr Θ p C) (w : Sps fr [] Θ sp (fun _ => E) [p] fun r Θ3 => RP R r ∧ K r Θ3) : Cbs fr Θ (rSp1 C sp E R) [p] K := fun F H vs ok hps Q k => by
  cases hps with
  | cons h1 hp => cases hp with
    | nil =>
      obtain ⟨a, dx, fs, rfl, h2⟩ := ic F H _ ok h1
      exact ⟨a, dx, fs, rfl, h2, w [] F H _ ok .nil (.cons h1 .nil) _ fun r Θ3 ⟨hr, kk⟩ v F3 H3 s3 ok3 hv => ⟨hr F3 v hv, k _ Θ3 kk _ F3 H3 s3 ok3 hv⟩⟩
theorem rp_B {b : Bool} : RP (fun v => ∃ z, v = .bl z) (iz zB b) := fun F v h => ⟨b, h⟩
theorem insC_in {α : Type} {g : α → List (Str × Vp)} {x : α} : InsC fr Θ (iz (zIn C g) x) C := fun F H v ok ⟨a, dx, us, h1, h2, _⟩ => ⟨a, dx, us, h1, ok.fh _ _ h2⟩
end
/-- an own class, all that is asked of it -/
structure ClsA (K : PySem.W.Frag) (mg : Str → Option Value) (C : Addr) (x : Str) (fs : List Str) : Prop extends ClsF K C fs where
  mg : mg x = some (.ref C)
  io : IsO K C
  k1 : PySem.W.kitOne K (.ref C) (.ref C) = some true
  k2 : PySem.W.kitOne K (.type "int") (.ref C) = some false
  k3 : PySem.W.kitAny K (.ref C) [.ref C, .type "int"] = some true
  k4 : PySem.W.kitAny K (.type "int") [.ref C, .type "int"] = some true
  cc : CmpC K C
theorem InitW.fine {α : Type} {fr fr' : Fr} {x C : Addr} {g : α → List (Str × Vp)} {Qn : L2.St → Hp → Prop} {Q : α → Prop} (h : InitW fr x C g Qn Q) (l : FrLe fr fr') : InitW fr' x C g Qn Q := fun y hy Γ Θ i dx hi σ F H ok env => h y hy Γ Θ i dx hi σ F H (ok.le l) env
end L2
set_option Elab.async false
set_option linter.all false
set_option maxRecDepth 100000
set_option maxHeartbeats 4000000
namespace L2
open PySem PySem.Spec PyProof.Rows PySem.HErr
abbrev TRw := Str × List Int × List Int
def IxOk (n : Nat) (ks : List Int) : Prop := ks.Nodup ∧ ∀ k ∈ ks, ∃ j : Nat, k = (j : Int) ∧ j < n
/-- the state behind a step -/
def mvF (s t g : List Int) : List Int := (List.range s.length).map fun (j : Nat) => s.getD j 0 - (if (j : Int) ∈ t then 1 else 0) + (if (j : Int) ∈ g then 1 else 0)
theorem mvF_len {s t g : List Int} : (mvF s t g).length = s.length := by unfold mvF; rw [List.length_map, List.length_range]
theorem mvF_get {s t g : List Int} {j : Nat} (h : j < s.length) : (mvF s t g).getD j 0 = s.getD j 0 - (if (j : Int) ∈ t then 1 else 0) + (if (j : Int) ∈ g then 1 else 0) := by
  unfold mvF
  rw [List.getD_eq_getElem?_getD, List.getElem?_map, List.getElem?_range h]
  rfl
def enB (s t : List Int) : Bool := t.all fun k => decide (s.getD k.toNat 0 > 0)
def movF (s t g : List Int) : Option (List Int) := if enB s t = true then some (mvF s t g) else none
def NonN (s : List Int) : Prop := ∀ n ∈ s, 0 ≤ n
theorem NonN.get {s : List Int} (h : NonN s) (j : Nat) : 0 ≤ s.getD j 0 := by
  rw [List.getD_eq_getElem?_getD]
  cases e : s[j]? with
  | none => exact Int.le_refl _
  | some x => exact h x (List.mem_of_getElem? e)
theorem nonN_of {s : List Int} (h : ∀ j < s.length, 0 ≤ s.getD j 0) : NonN s := fun n hn => by
  obtain ⟨j, hj⟩ := List.getElem?_of_mem hn
  have h1 := (List.getElem?_eq_some_iff.mp hj).1
  have := h j h1
  rw [List.getD_eq_getElem?_getD, hj] at this
  exact this
theorem movF_len {s t g z : List Int} (h : movF s t g = some z) : z.length = s.length := by
  unfold movF at h
  split at h
  · cases h; exact mvF_len
  · cases h
theorem movF_non {s t g z : List Int} (hs : NonN s) (ht : IxOk s.length t) (h : movF s t g = some z) : NonN z := by
  unfold movF at h
  split at h
  · rename_i he
    cases h
    refine nonN_of fun j hj => ?_
    rw [mvF_len] at hj
    rw [mvF_get hj]
    have h0 := hs.get j
    by_cases q : (j : Int) ∈ t
    · have := List.all_eq_true.mp he _ q
      have := of_decide_eq_true this
      rw [Int.toNat_natCast] at this
      rw [if_pos q]
      split <;> omega
    · rw [if_neg q]
      split <;> omega
  · cases h
/-- two tables of the same steps -/
def RowR (n : Nat) (a b : TRw) : Prop := a.1 = b.1 ∧ (∀ k, k ∈ a.2.1 ↔ k ∈ b.2.1) ∧ (∀ k, k ∈ a.2.2 ↔ k ∈ b.2.2) ∧ IxOk n a.2.1 ∧ IxOk n a.2.2 ∧ IxOk n b.2.1 ∧ IxOk n b.2.2
abbrev TabRel (n : Nat) (a b : List TRw) : Prop := Paired (RowR n) a b
def TabOk (n : Nat) (a : List TRw) : Prop := (∀ r ∈ a, IxOk n r.2.1 ∧ IxOk n r.2.2) ∧ (a.map (·.1)).Nodup
def rowOf (tab : List TRw) (z : Str) : Option TRw := tab.find? fun r => decide (r.1 = z)
theorem TabRel.row {n : Nat} {a b : List TRw} (h : TabRel n a b) (z : Str) : (rowOf a z = none ∧ rowOf b z = none) ∨ ∃ r r', rowOf a z = some r ∧ rowOf b z = some r' ∧ RowR n r r' := by
  induction h with
  | nil => exact .inl ⟨rfl, rfl⟩
  | @cons r r' as bs hr _ ih =>
    unfold rowOf
    rw [List.find?_cons, List.find?_cons]
    by_cases e : r.1 = z
    · refine .inr ⟨r, r', ?_, ?_, hr⟩
      · rw [decide_eq_true e]
      · rw [decide_eq_true (hr.1.symm.trans e)]
    · rw [decide_eq_false e, decide_eq_false (fun q => e (hr.1.trans q))]
      exact ih
/-- the state behind a run -/
def runF (tab : List TRw) : List Int → List Str → Option (List Int)
  | s, [] => some s
  | s, z :: zs => match rowOf tab z with
    | none => none
    | some r => match movF s r.2.1 r.2.2 with
      | none => none
      | some s' => runF tab s' zs
theorem runF_app (tab : List TRw) : ∀ (zs ys : List Str) (s : List Int), runF tab s (zs ++ ys) = (runF tab s zs).bind fun s' => runF tab s' ys
  | [], ys, s => rfl
  | z :: zs, ys, s => by
    show runF tab s (z :: (zs ++ ys)) = _
    rw [runF, runF]
    cases rowOf tab z with
    | none => rfl
    | some r =>
      dsimp only
      cases movF s r.2.1 r.2.2 with
      | none => rfl
      | some s' => exact runF_app tab zs ys s'
theorem rowOf_mem {tab : List TRw} {z : Str} {r : TRw} (h : rowOf tab z = some r) : r ∈ tab ∧ r.1 = z := ⟨List.mem_of_find?_eq_some h, of_decide_eq_true (List.find?_some (p := fun r : TRw => decide (r.1 = z)) h)⟩
theorem runF_keep {n : Nat} {tab : List TRw} (ht : TabOk n tab) : ∀ (zs : List Str) {s z : List Int}, s.length = n → NonN s → runF tab s zs = some z → z.length = n ∧ NonN z
  | [], s, z, hl, hn, h => by cases h; exact ⟨hl, hn⟩
  | y :: zs, s, z, hl, hn, h => by
    unfold runF at h
    cases e : rowOf tab y with
    | none => rw [e] at h; cases h
    | some r =>
      rw [e] at h
      dsimp only at h
      cases e2 : movF s r.2.1 r.2.2 with
      | none => rw [e2] at h; cases h
      | some s' =>
        rw [e2] at h
        exact runF_keep ht zs ((movF_len e2).trans hl) (movF_non hn (by rw [hl]; exact (ht.1 r (rowOf_mem e).1).1) e2) h
theorem TabRel.names {n : Nat} {a b : List TRw} (h : TabRel n a b) : a.map (·.1) = b.map (·.1) := by
  induction h with
  | nil => rfl
  | cons hr _ ih => rw [List.map_cons, List.map_cons, hr.1, ih]
end L2
set_option Elab.async false
set_option linter.all false
set_option maxRecDepth 100000
set_option maxHeartbeats 4000000
namespace L2
open PySem PySem.Spec PyProof.Rows PySem.HErr
open PySem.W (findIn isFn)
/-- the i-th of the lent places -/
def ad (as : List Addr) (i : Nat) : Addr := as.getD i 0
structure SrcIK (K : PySem.W.Frag) (C : Addr) (qual : Str) (st : Stmt) : Prop where
  ex : ∃ f fd, FunA K "__init__" qual st f fd ∧ Mk K C f
structure DefIK (P : Program) (w : World) (K : PySem.W.Frag) (mg : Str → Option Value) (base : Heap) (CX : CXT) (k : Nat) (C : Addr) (ps : List Str) (sp : Sp) : Prop where
  ex : ∃ f fd, LkF K f fd ∧ Mk K C f ∧ FnOk P w K mg base CX k f fd ps sp
section
variable {P : Program} {w : World} {K : PySem.W.Frag} {mg : Str → Option Value} {base : Heap} {CX : CXT} {qual : Str} {C : Addr} {st : Stmt} {N ps : List Str} {k : Nat} {sp : Sp} {pre : Pre} {ef : HE → Er}
theorem DefIK.mono {j : Nat} (D : DefIK P w K mg base CX j C ps sp) (h : j ≤ k) : DefIK P w K mg base CX k C ps sp := by
  obtain ⟨f, fd, hlk, h1, h3⟩ := D.ex
  exact ⟨f, fd, hlk, h1, h3.mono h⟩
theorem SrcIK.okX (F : SrcIK K C qual st) (S : FnScope N ps (defScope st)) (len : ∀ vs H Q E, sp vs H Q E → vs.length = ps.length)
    (hbody : ∀ (f : Addr) (cdv : Value) (A : Around) (outer : List Env) (s : Shared) (H : Hp) (vs : List V) (Q : VK) (E : XK), Room k (A.deeper (envOfC qual (defScope st) s.heap.objs.size f cdv)) → sp vs H Q E →
      ∃ t, PSs (cxOf (L2.CX P w) P w K mg base N qual (defScope st) f cdv A outer s H E) (defBody st) t ∧ t { nx := fun _ H' => Q .non H', rt := Q } (start N vs) H) : DefIK P w K mg base (L2.CX P w) (k + 1) C ps sp := by
  obtain ⟨f, fd, h1, h2⟩ := F.ex
  exact ⟨f, fd, h1.lk, h2, h1.okX S len (hbody f)⟩
theorem SrcIK.okAX (F : SrcIK K C qual st) (S : FnScope N ps (defScope st)) (len : ∀ qs out err, pre qs out err → qs.length + 1 = ps.length)
    (hbody : ∀ (f : Addr) (cdv : Value) (A : Around) (outer : List Env) (s : Shared) (H : Hp) (E : XK) (qs : List Vp) (out : Vp → Prop) (err : Er → Prop), Room k (A.deeper (envOfC qual (defScope st) s.heap.objs.size f cdv)) → pre qs out err →
      ∃ t, PSs (cxOf (L2.CX P w) P w K mg base N qual (defScope st) f cdv A outer s H E) (defBody st) t ∧ ∀ fr x dx (Q : L2.St → Hp → Prop) (rt : VK), (∀ p, out p → ∀ σ F H, (∃ Θ, OkF fr Θ F H) → p.p F (.ref x) → Q σ H) → (∀ p, out p → ∀ F H, (∃ Θ, OkF fr Θ F H) → p.p F (.ref x) → rt .non H) → Rse fr E err →
        Kn fr (envOf N (zAt x :: qs)) [cI x C dx []] (t { nx := Q, rt := rt })) : DefIK P w K mg base (L2.CX P w) (k + 1) C ps (spI C pre) := by
  refine F.okX S (fun vs H Q E h => ?_) (fun f cdv A outer s H vs Q E hr h => ?_)
  · obtain ⟨x, dx, vs', F, qs, out, err, rfl, _, _, _, h2, h3, _⟩ := h
    rw [List.length_cons, ← Paired.len h2]
    exact len _ _ _ h3
  · obtain ⟨x, dx, vs', F, qs, out, err, rfl, hx, fx, fh, h2, h3, h4, h5⟩ := h
    obtain ⟨t, ht, hk⟩ := hbody f cdv A outer s H E qs out err hr h3
    have post : ∀ {Θ : List Cel} {F' H' : Hp}, OkF ⟨F, minus H x, []⟩ Θ F' H' → Same (minus H x) H' ∧ Same F F' ∧ Same F' H' ∧ Newer F (minus H x) F' := fun ok => ⟨fun a o h => ok.h0 a o (by simp) h, ok.f0, ok.fh, ok.nw⟩
    have c1 : ∀ p, out p → ∀ (σ : L2.St) F' H', (∃ Θ, OkF ⟨F, minus H x, []⟩ Θ F' H') → p.p F' (.ref x) → Q .non H' := fun p hp σ F' H' ⟨Θ, ok⟩ hv => by
      obtain ⟨a, b, c, d⟩ := post ok
      exact h4 p hp F' H' a b c d hv
    have c2 : Rse ⟨F, minus H x, []⟩ E err := fun e he Θ F' H' d us ok hd hf => by
      obtain ⟨a, b, c, n⟩ := post ok
      exact h5 e he F' H' d us a b c n hd hf
    exact ⟨t, ht, hk ⟨F, minus H x, []⟩ x dx (fun _ H' => Q .non H') Q c1 (fun p hp F' H' => c1 p hp [] F' H') c2 _ F H (okf_init hx fx fh) (env_start (vs := .ref x :: vs') (.cons rfl h2))⟩
theorem SrcIK.okW {α β : Type} {args : α → List Vp} {md : α → DM β} {g : β → List (Str × Vp)} (F : SrcIK K C qual st) (S : FnScope N ps (defScope st)) (len : ∀ x, (args x).length + 1 = ps.length)
    (hbody : ∀ (f : Addr) (cdv : Value) (A : Around) (outer : List Env) (s : Shared) (H : Hp) (E : XK) (a : α) (Q : β → Prop) (X : HE → Prop), Room k (A.deeper (envOfC qual (defScope st) s.heap.objs.size f cdv)) → md a Q X →
      ∃ t, PSs (cxOf (L2.CX P w) P w K mg base N qual (defScope st) f cdv A outer s H E) (defBody st) t ∧ ∀ fr x dx (Qn : L2.St → Hp → Prop) (rt : VK), InitW fr x C g Qn Q → RseW fr E ef X → Kn fr (envOf N (zAt x :: args a)) [cI x C dx []] (t { nx := Qn, rt := rt })) : DefIK P w K mg base (L2.CX P w) (k + 1) C ps (spI C (preW ef args (zIn C g) md)) :=
  F.okAX S (fun qs out err ⟨a, Q, X, e, _⟩ => by rw [e]; exact len a) fun f cdv A outer s H E qs out err hr ⟨a, Q, X, e1, h, e2, e3⟩ => by
    subst e1 e2 e3
    obtain ⟨t, ht, hk⟩ := hbody f cdv A outer s H E a Q X hr h
    refine ⟨t, ht, fun fr x dx Qn rt hq hrt hrse => hk fr x dx Qn rt (fun y hy Γ Θ i dx' hi σ F' H' ok env => ?_) fun z hz Γ Θ => kr_E hrse ⟨z, hz, rfl⟩⟩
    obtain ⟨h1, ⟨o, h2, us, rfl, h4⟩, h5⟩ := ok.ce _ (List.mem_of_getElem? hi)
    have ok2 := ok.frz hi rfl h2
    have sF : Same F' (upd F' x (.ins C dx' us)) := same_upd h1
    exact hq _ ⟨y, hy, rfl⟩ σ _ H' ⟨_, ok2⟩ ⟨x, dx', us, rfl, upd_same, h4.mono sF⟩
end
end L2
set_option Elab.async false
set_option linter.all false
set_option maxRecDepth 100000
set_option maxHeartbeats 4000000
namespace L2
open PySem PySem.Spec PyProof.Rows PySem.HErr
section
variable {fr fr' : Fr} {Γ Γ' : Gam} {Θ Θ' Θl Θr : List Cel} {F F' H H' : Hp} {K : Vp → List Cel → Prop} {Qv : VK}
theorem putP_new {f : Str} {p : Vp} : ∀ {fl : List (Str × Vp)}, fl.lookup f = none → putP f p fl = fl ++ [(f, p)]
  | [], _ => rfl
  | (g, q) :: r, h => by
    rw [List.lookup_cons] at h
    unfold putP
    by_cases e : g = f
    · subst e
      rw [beq_self_eq_true] at h
      cases h
    · rw [if_neg e, putP_new (fl := r)]
      · rfl
      · cases hb : (f == g) with
        | true => exact absurd (LawfulBEq.eq_of_beq hb).symm e
        | false => rw [hb] at h; exact h
/-- a new field -/
theorem kn_putN {Kf : PySem.W.Frag} {f : Str} {fs : List Str} {ta tv : TE} {D : Ends} {C : Addr} (T : ClsF Kf C fs) (hf : f ∈ fs) (w : We fr Γ Θ tv fun p Θ1 => We fr Γ Θ1 ta fun q Θ2 => ∃ a dx fl j, q = zAt a ∧ Θ2[j]? = some (cI a C dx fl) ∧ fl.lookup f = none ∧ fl.length < 1000 ∧ Kn fr Γ (Θ2.set j (cI a C dx (fl ++ [(f, p)]))) D.nx) : Kn fr Γ Θ (sFld Kf ta tv f D) :=
  kn_putF T hf (w.imp fun p Θ1 w1 => w1.imp fun q Θ2 ⟨a, dx, fl, j, e1, e2, e3, e4, k⟩ => ⟨a, dx, fl, j, e1, e2, e4, by rw [putP_new e3]; exact k⟩)
end
end L2
set_option Elab.async false
set_option linter.all false
set_option maxRecDepth 100000
set_option maxHeartbeats 4000000
namespace L2
open PySem PySem.Spec PyProof.Rows PySem.HErr
/-- an address as a thing -/
def zR : Rep Addr := ⟨fun _ v a => v = .ref a, fun _ h => h⟩
/-- ghost rows of a dict of own lists: key, the list's place, what is in it -/
abbrev GR (α : Type) := List (List Int × Addr × List α)
def gK {α : Type} (g : GR α) : List (List Int × Addr) := g.map fun x => (x.1, x.2.1)
def gC {α : Type} (r : Rep α) (g : GR α) : List Cel := g.map fun x => cY x.2.1 r x.2.2
def GNd {α : Type} (g : GR α) : Prop := (g.map (·.1)).Nodup
end L2
set_option Elab.async false
set_option linter.all false
set_option maxRecDepth 100000
set_option maxHeartbeats 4000000
namespace L2
open PySem PySem.Spec PyProof.Rows PySem.HErr
section
variable {fr fr' : Fr} {Γ Γ' : Gam} {Θ Θ' : List Cel} {F F' H H' : Hp} {K : Vp → List Cel → Prop} {Qv : VK}
theorem gK_set {α : Type} {g : GR α} {m : Nat} {k : List Int} {b : Addr} {v v' : List α} (h : g[m]? = some (k, b, v)) : gK (g.set m (k, b, v')) = gK g := by
  unfold gK
  rw [List.map_set]
  refine List.ext_getElem? fun j => ?_
  rw [List.getElem?_set, List.length_map]
  split
  · rename_i e
    subst e
    rw [List.getElem?_map, h]
    split
    · rfl
    · rename_i q
      exact absurd (List.getElem?_eq_some_iff.mp h).1 q
  · rfl
theorem GNd.set {α : Type} {g : GR α} {m : Nat} {k : List Int} {b : Addr} {v v' : List α} (n : GNd g) (h : g[m]? = some (k, b, v)) : GNd (g.set m (k, b, v')) := by
  have e : (g.set m (k, b, v')).map (·.1) = (gK (g.set m (k, b, v'))).map (·.1) := by unfold gK; rw [List.map_map]; rfl
  unfold GNd
  rw [e, gK_set h]
  unfold gK
  rw [List.map_map]
  exact n
end
end L2
set_option Elab.async false
set_option linter.all false
set_option maxRecDepth 100000
set_option maxHeartbeats 4000000
namespace L2
open PySem PySem.Spec PyProof.Rows PySem.HErr
/-- a def that hands out own lists: res, the result by their places; cel, the cells -/
def preNW {α β : Type} (ef : HE → Er) (args : α → List Vp) (res : β → List Addr → Vp) (cel : β → List Addr → List Cel) (m : α → DM β) : PreN := fun ps out err =>
  ∃ x Q X, ps = args x ∧ m x Q X ∧ (out = fun p Θn => ∃ y as, Q y ∧ p = res y as ∧ Θn = cel y as) ∧ (err = fun e => ∃ z, X z ∧ e = ef z)
def RetNW {β : Type} (fr : Fr) (Qv : VK) (res : β → List Addr → Vp) (cel : β → List Addr → List Cel) (Q : β → Prop) : Prop := ∀ y as, Q y → ∀ Θ'' Θx, Θ''.Perm (cel y as ++ Θx) → Rt fr Θ'' Qv (res y as)
section
variable {fr fr' : Fr} {Γ Γ' : Gam} {Θ Θ' Θr : List Cel} {F F' H H' : Hp} {K : Vp → List Cel → Prop} {Qv : VK}
theorem RetNW.fine {β : Type} {res : β → List Addr → Vp} {cel : β → List Addr → List Cel} {Q : β → Prop} (h : RetNW fr Qv res cel Q) (l : FrLe fr fr') : RetNW fr' Qv res cel Q := fun y as hy Θ'' Θx pm => (h y as hy Θ'' Θx pm).fine l
theorem sps_NW {α β : Type} {ef : HE → Er} {args : α → List Vp} {res : β → List Addr → Vp} {cel : β → List Addr → List Cel} {m : α → DM β} {E : L2.St → XK} {ps : List Vp} {Q : β → Prop} {X : HE → Prop} (x : α) (h : m x Q X) (k : ∀ y as, Q y → K (res y as) (cel y as ++ Θ))
    (xx : ∀ z, X z → Kr fr Γ Θ (fun cls d σ H => E σ cls d H) (ef z)) (e : ps = args x := by rfl) : Sps fr Γ Θ (spN (preNW ef args res cel m)) E ps K :=
  sps_N ⟨x, Q, X, e, h, rfl, rfl⟩ (fun p Θn ⟨y, as, hy, e1, e2⟩ => by rw [e1, e2]; exact k y as hy) fun er ⟨z, hz, e⟩ => by rw [e]; exact xx z hz
theorem sps_NW0 {α β : Type} {ef : HE → Er} {args : α → List Vp} {res : β → List Addr → Vp} {cel : β → List Addr → List Cel} {m : α → DM β} {E : L2.St → XK} {ps : List Vp} {Q : β → Prop} (x : α) (h : m x Q noX) (k : ∀ y as, Q y → K (res y as) (cel y as ++ Θ)) (e : ps = args x := by rfl) : Sps fr Γ Θ (spN (preNW ef args res cel m)) E ps K :=
  sps_NW x h k (fun z hz => hz.elim) e
/-- what may be known while the cells Θb are lent -/
def LendR (Θb : List Cel) (F Fl : Hp) : Prop := Same F Fl ∧ ∀ c ∈ Θb, ∃ o, Fl c.a = some o ∧ c.φ F o
theorem we_lend {te : TE} (ho : ∀ c ∈ Θ, c.own = true) (hΓ : ∀ σ F Fl, LendR Θ F Fl → EnvF Γ σ F → EnvF Γ' σ Fl) (w : We fr Γ' [] te fun p Θ' => Θ' = [] ∧ ∃ b : Bool, p = iz zB b ∧ K (iz zB b) Θ) : We fr Γ Θ te K := fun σ F H ok env Q q => by
  have own : ∀ c ∈ Θ, F c.a = none ∧ (∃ o, H c.a = some o ∧ c.φ F o) ∧ fr.H0 c.a = none := fun c hc => by
    obtain ⟨h1, h2, h3⟩ := ok.ce c hc
    rw [if_pos (ho c hc)] at h3
    exact ⟨h1, h2, h3⟩
  have keep : ∀ a o, F a = some o → a ∉ Θ.map Cel.a := fun a o h hm => by
    obtain ⟨c, hc, e⟩ := List.mem_map.mp hm
    have := (own c hc).1
    rw [e, h] at this
    cases this
  have sl : Same F (updL F H (Θ.map Cel.a)) := fun a o h => by
    unfold updL
    rw [if_neg (keep a o h)]
    exact h
  have inl : ∀ c ∈ Θ, updL F H (Θ.map Cel.a) c.a = H c.a := fun c hc => by
    unfold updL
    rw [if_pos (List.mem_map.mpr ⟨c, hc, rfl⟩)]
  have okl : OkF fr [] (updL F H (Θ.map Cel.a)) H := by
    refine ⟨fun a o h => ?_, ok.f0.trans sl, fun a o h => ?_, ok.h0, ok.al, List.nodup_nil, fun c hc => nomatch hc⟩
    · unfold updL at h
      split at h
      · exact h
      · exact ok.fh a o h
    · unfold updL at h
      split at h
      · rename_i hm
        obtain ⟨c, hc, e⟩ := List.mem_map.mp hm
        have := (own c hc).2.2
        rw [e] at this
        exact .inr (.inl this)
      · exact ok.nw a o h
  refine w σ _ H okl (hΓ σ F _ ⟨sl, fun c hc => ?_⟩ env) Q fun p Θ' ⟨e2, b, e1, k⟩ v F1 H1 s1 okr hv => ?_
  · obtain ⟨o, h2, h3⟩ := (own c hc).2.1
    exact ⟨o, by rw [inl c hc]; exact h2, h3⟩
  subst e1 e2
  -- the lent objects are taken back
  have sF : Same F (fun a => if a ∈ Θ.map Cel.a then none else F1 a) := fun a o h => by
    dsimp only
    rw [if_neg (keep a o h)]
    exact s1 _ _ (sl a o h)
  refine q _ _ k v _ H1 sF ⟨fun a o h => ?_, ok.f0.trans sF, fun a o h => ?_, okr.h0, okr.al, ok.nd, fun c hc => ?_⟩ hv
  · have h : (if a ∈ Θ.map Cel.a then none else F1 a) = some o := h
    split at h
    · cases h
    · exact okr.fh a o h
  · have h : (if a ∈ Θ.map Cel.a then none else F1 a) = some o := h
    split at h
    · cases h
    · exact okr.nw a o h
  · obtain ⟨h1, ⟨o, h2, h3⟩, h4⟩ := own c hc
    have hm : c.a ∈ Θ.map Cel.a := List.mem_map.mpr ⟨c, hc, rfl⟩
    refine ⟨if_pos hm, ⟨o, okr.fh _ _ (s1 _ _ (by rw [inl c hc]; exact h2)), c.mono sF h3⟩, by rw [if_pos (ho c hc)]; exact h4⟩
/-- names, one by one -/
theorem env_to {R : Option Vp → Option Vp → Prop} {Γ1 Γ2 : Gam} {Fl : Hp} (h : Paired R Γ1 Γ2) (hR : ∀ e e', R e e' → ∀ p', e' = some p' → ∃ p, e = some p ∧ ∀ v, p.p F v → p'.p Fl v) : ∀ {σ : L2.St}, EnvF Γ1 σ F → EnvF Γ2 σ Fl := by
  induction h with
  | nil => intro σ h; cases h; exact .nil
  | @cons e e' _ _ a _ ih =>
    intro σ h
    cases h with
    | cons b c =>
      refine .cons (fun p' hp => ?_) (ih c)
      obtain ⟨p, e1, h1⟩ := hR _ _ a p' hp
      obtain ⟨v, h2, h3⟩ := b p e1
      exact ⟨v, h2, h1 v h3⟩
/-- what an entry becomes while the cells are lent: itself, or a thing with its own lists seen as values -/
def LendE (Θb : List Cel) (e e' : Option Vp) : Prop := e' = none ∨ e' = e ∨ ∃ p p', e = some p ∧ e' = some p' ∧ ∀ F Fl, LendR Θb F Fl → ∀ v, p.p F v → p'.p Fl v
theorem env_lend {Γ1 Γ2 : Gam} (h : Paired (LendE Θ) Γ1 Γ2) : ∀ σ F Fl, LendR Θ F Fl → EnvF Γ1 σ F → EnvF Γ2 σ Fl := fun σ F Fl hl => env_to h fun e e' hE p' hp => by
  rcases hE with q | q | ⟨p, p2, e1, e2, hq⟩
  · rw [q] at hp; cases hp
  · exact ⟨p', by rw [← q]; exact hp, fun v hv => p'.mono hl.1 hv⟩
  · rw [e2] at hp
    cases hp
    exact ⟨p, e1, hq F Fl hl⟩
/-- an own list, seen as a value -/
theorem LendR.lst {α : Type} {r : Rep α} {a : Addr} {xs : List α} {Fl : Hp} (h : LendR Θ F Fl) {j : Nat} (hj : Θ[j]? = some (cY a r xs)) {v : V} (hv : (iz zR a).p F v) : (iz (yL r) xs).p Fl v := by
  obtain ⟨o, h2, ⟨⟨vs, rfl, h4⟩, h5⟩⟩ := h.2 _ (List.mem_of_getElem? hj)
  have hv : v = .ref a := hv
  subst hv
  exact ⟨⟨a, vs, rfl, h2, Paired.imp2 (fun _ _ q => r.mono h.1 q) h4⟩, h5⟩
end
section
variable {P : Program} {w : World} {K : PySem.W.Frag} {mg : Str → Option Value} {base : Heap} {x m qual : Str} {C : Addr} {st : Stmt} {N ps : List Str} {k : Nat} {α β : Type} {ef : HE → Er} {args : α → List Vp} {res : β → List Addr → Vp} {cel : β → List Addr → List Cel} {md : α → DM β}
theorem Src.okNW (F : Src K mg x st ps) (S : FnScope N ps (defScope st)) (len : ∀ x, (args x).length = ps.length)
    (hbody : ∀ (f : Addr) (cdv : Value) (A : Around) (outer : List Env) (s : Shared) (H : Hp) (E : XK) (a : α) (Q : β → Prop) (X : HE → Prop), Room k (A.deeper (envOfC x (defScope st) s.heap.objs.size f cdv)) → md a Q X →
      ∃ t, PSs (cxOf CX0 P w K mg base N x (defScope st) f cdv A outer s H E).nox (defBody st) t ∧ ∀ fr Qv, RetNW fr Qv res cel Q → Kn fr (envOf N (args a)) [] (t { nx := fun _ H' => Qv .non H', rt := Qv })) (own : ∀ y as, ∀ c ∈ cel y as, c.own = true) : Def P w K mg base CX0 (k + 1) x ps (spN (preNW ef args res cel md)) :=
  F.okN S (fun qs out err ⟨a, Q, X, e, _⟩ => by rw [e]; exact len a) fun f cdv A outer s H E qs out err hr ⟨a, Q, X, e1, h, e2, e3⟩ => by
    subst e1 e2 e3
    obtain ⟨t, ht, hk⟩ := hbody f cdv A outer s H E a Q X hr h
    exact ⟨t, ht, fun fr Qv hret => hk fr Qv fun y as hy Θ'' Θx pm => hret _ _ ⟨y, as, hy, rfl, rfl⟩ (own y as) Θ'' Θx pm⟩
theorem SrcM.okNW (F : SrcM K C m qual st ps) (S : FnScope N ps (defScope st)) (len : ∀ x, (args x).length = ps.length)
    (hbody : ∀ (f : Addr) (cdv : Value) (A : Around) (outer : List Env) (s : Shared) (H : Hp) (E : XK) (a : α) (Q : β → Prop) (X : HE → Prop), Room k (A.deeper (envOfC qual (defScope st) s.heap.objs.size f cdv)) → md a Q X →
      ∃ t, PSs (cxOf CX0 P w K mg base N qual (defScope st) f cdv A outer s H E).nox (defBody st) t ∧ ∀ fr Qv, RetNW fr Qv res cel Q → Kn fr (envOf N (args a)) [] (t { nx := fun _ H' => Qv .non H', rt := Qv })) (own : ∀ y as, ∀ c ∈ cel y as, c.own = true) : DefM P w K mg base CX0 (k + 1) C m ps (spN (preNW ef args res cel md)) := by
  refine F.ok S (fun vs H Q E h => ?_) (fun f cdv A outer s H vs Q E hr h => ?_)
  · obtain ⟨F, qs, out, err, _, h2, ⟨a, Q, X, e, _⟩, _⟩ := h
    rw [← Paired.len h2, e]
    exact len a
  · obtain ⟨F, qs, out, err, h1, h2, ⟨a, Qm, X, e1, hm, e2, e3⟩, h4, h5⟩ := h
    subst e1 e2 e3
    obtain ⟨t, ht, hk⟩ := hbody f cdv A outer s H E a Qm X hr hm
    exact ⟨t, ht, hk _ Q (fun y as hy Θ'' Θx pm => retN_of h4 _ _ ⟨y, as, hy, rfl, rfl⟩ (own y as) Θ'' Θx pm) _ F H (OkF.start h1) (env_start h2)⟩
end
def rLenDD : List V → Hp → VK → Prop := fun xs H Q => ∃ (p : Addr) (n : Nat), xs = [.ref p] ∧ ((∃ kvs : List (List L2.Key × V), Rd H p (.dT kvs) ∧ n = kvs.length) ∨ ∃ kvs : List (L2.Key × V), Rd H p (.dK kvs) ∧ n = kvs.length) ∧ Q (.int ((n : Nat) : Int)) H
theorem call_len_dd {X : Cx} : CallR X (.builtin "len") rLenDD := by
  intro pins s σ H xs us Q I r ⟨p, n, e, hp, q⟩
  subst e
  obtain ⟨u, rfl, rx⟩ := vals1 r
  obtain rfl : u = .ref p := rx
  rcases hp with ⟨kvs, hp, rfl⟩ | ⟨kvs, hp, rfl⟩
  · obtain ⟨z, hd, ys, rel, dd⟩ := dt_rd I.hok hp
    have hl : kvs.length = ys.length := Paired.length rel
    have hs : (ys.length : Int) < 2 ^ 63 := by rw [sizeLine_eq] at z; omega
    refine call_len_dictH hd dd hs ?_
    rw [← hl]
    exact ⟨.int ((kvs.length : Nat) : Int), H, I.tok _, ⟨_, rfl⟩, q⟩
  · exact d_len I hp fun t s' I' => ⟨.int kvs.length, H, I', ⟨t, rfl⟩, q⟩
end L2
set_option Elab.async false
set_option linter.all false
set_option maxRecDepth 100000
set_option maxHeartbeats 4000000
namespace L2
open PySem PySem.Spec PyProof.Rows PySem.HErr
end L2
set_option Elab.async false
set_option linter.all false
set_option maxRecDepth 100000
set_option maxHeartbeats 4000000
namespace L2
open PySem PySem.Spec PyProof.Rows PySem.HErr
end L2
set_option Elab.async false
set_option linter.all false
set_option maxRecDepth 100000
set_option maxHeartbeats 4000000
namespace L2
open PySem PySem.Spec PyProof.Rows PySem.HErr
end L2
set_option Elab.async false
set_option linter.all false
set_option maxRecDepth 100000
set_option maxHeartbeats 4000000
namespace L2
open PySem PySem.Spec PyProof.Rows PySem.HErr
open PySem.W (findIn isFn)
end L2
set_option Elab.async false
set_option linter.all false
set_option maxRecDepth 100000
set_option maxHeartbeats 4000000
namespace L2
open PySem PySem.Spec PyProof.Rows PySem.HErr
instance {α β : Type} {r : Rep α} {s : Rep β} [d : XDat r] [e : XDat s] : XDat (yU r s) := ⟨fun x => match x with | .inl a => d.enc a | .inr b => e.enc b, max d.dep e.dep, fun {F v x} h => by
  cases x with
  | inl a => exact ⟨(d.xd h).1, Nat.le_trans (d.xd h).2 (Nat.le_max_left _ _)⟩
  | inr b => exact ⟨(e.xd h).1, Nat.le_trans (e.xd h).2 (Nat.le_max_right _ _)⟩⟩
instance {α β : Type} {r : Rep α} {s : Rep β} [d : NotNon r] [e : NotNon s] : NotNon (yU r s) := ⟨fun F v x h => by
  cases x with
  | inl a => exact d.nn F v a h
  | inr b => exact e.nn F v b h⟩
end L2
set_option Elab.async false
set_option linter.all false
set_option maxRecDepth 100000
set_option maxHeartbeats 4000000
namespace L2
open PySem PySem.Spec PyProof.Rows PySem.HErr
class EDat {α : Type} (r : Rep α) where
  enc : α → PyData
  dep : Nat
  dp : ∀ {Kf : PySem.W.Frag} {F : Hp} {v : V} {x : α}, r.p F v x → Dp Kf F v (enc x)
  cl : ∀ {F : Hp} {v : V} {x : α}, r.p F v x → (enc x).canLay0 = true
  dl : ∀ {F : Hp} {v : V} {x : α}, r.p F v x → (enc x).depth ≤ dep
instance (priority := low) edX {α : Type} {r : Rep α} [d : XDat r] : EDat r := ⟨d.enc, d.dep, fun {Kf F v x} h => (xp_dp (Kf := Kf) _ _ (d.xd h).1).1, fun {F v x} h => lay_nb _ (xp_dp (Kf := []) _ _ (d.xd h).1).2, fun h => (d.xd h).2⟩
instance edB : EDat zB := ⟨PyData.bool, 0, fun h => by cases (show _ = V.bl _ from h); exact .bl _, fun _ => by simp only [PyData.canLay0], fun _ => by simp [PyData.depth]⟩
instance edN : EDat yN := ⟨fun _ => PyData.none, 0, fun h => by cases (show _ = V.non from h); exact .non, fun _ => by simp only [PyData.canLay0], fun _ => by simp [PyData.depth]⟩
instance ed2 {α β : Type} {r : Rep α} {s : Rep β} [d : EDat r] [e : EDat s] : EDat (z2 r s) := ⟨fun x => .tuple [d.enc x.1, e.enc x.2], max d.dep e.dep + 1, fun ⟨a, v1, v2, h1, h2, h3, h4⟩ => by subst h1; exact .tup (SqT.of h2) (.cons (d.dp h3) (.cons (e.dp h4) .nil)),
  fun ⟨a, v1, v2, h1, h2, h3, h4⟩ => by simp only [PyData.canLay0, PyData.canLayAll0, d.cl h3, e.cl h4, Bool.and_self],
  fun ⟨a, v1, v2, h1, h2, h3, h4⟩ => by
    have := d.dl h3
    have := e.dl h4
    simp only [PyData.depth, PyData.depthAll]
    omega⟩
instance ed3 {α β γ : Type} {r : Rep α} {s : Rep β} {t : Rep γ} [d : EDat r] [e : EDat s] [f : EDat t] : EDat (z3 r s t) := ⟨fun x => .tuple [d.enc x.1, e.enc x.2.1, f.enc x.2.2], max d.dep (max e.dep f.dep) + 1, fun ⟨a, v1, v2, v3, h1, h2, h3, h4, h5⟩ => by subst h1; exact .tup (SqT.of h2) (.cons (d.dp h3) (.cons (e.dp h4) (.cons (f.dp h5) .nil))),
  fun ⟨a, v1, v2, v3, h1, h2, h3, h4, h5⟩ => by simp only [PyData.canLay0, PyData.canLayAll0, d.cl h3, e.cl h4, f.cl h5, Bool.and_self],
  fun ⟨a, v1, v2, v3, h1, h2, h3, h4, h5⟩ => by
    have := d.dl h3
    have := e.dl h4
    have := f.dl h5
    simp only [PyData.depth, PyData.depthAll]
    omega⟩
instance edO {α : Type} {r : Rep α} [d : EDat r] : EDat (yO r) := ⟨fun x => match x with | none => .none | some y => d.enc y, d.dep, fun {Kf F v x} h => by
    cases x with
    | none => cases (show v = V.non from h); exact .non
    | some y => exact d.dp h,
  fun {F v x} h => by
    cases x with
    | none => simp only [PyData.canLay0]
    | some y => exact d.cl h,
  fun {F v x} h => by
    cases x with
    | none => simp [PyData.depth]
    | some y => exact d.dl h⟩
instance edU {α β : Type} {r : Rep α} {s : Rep β} [d : EDat r] [e : EDat s] : EDat (yU r s) := ⟨fun x => match x with | .inl a => d.enc a | .inr b => e.enc b, max d.dep e.dep, fun {Kf F v x} h => by
    cases x with
    | inl a => exact d.dp h
    | inr b => exact e.dp h,
  fun {F v x} h => by
    cases x with
    | inl a => exact d.cl h
    | inr b => exact e.cl h,
  fun {F v x} h => by
    cases x with
    | inl a => exact Nat.le_trans (d.dl h) (Nat.le_max_left ..)
    | inr b => exact Nat.le_trans (e.dl h) (Nat.le_max_right ..)⟩
section
variable {fr : Fr} {Γ : Gam} {Θ : List Cel} {F H : Hp} {K : Vp → List Cel → Prop}
theorem sh_lay {d : PyData} (h : d.canLay0 = true) (hd : d.depth ≤ 64) : SeqAt.shaped d = true := by
  unfold SeqAt.shaped
  rw [h, decide_eq_true hd]
  rfl
theorem oy_eqEE {Kf : PySem.W.Frag} {α β : Type} {r : Rep α} {s : Rep β} [d : EDat r] [e : EDat s] {x : α} {y : β} (hd : d.dep ≤ 64) (he : e.dep ≤ 64) (k : K (iz zB (PyData.eqv (d.enc x) (e.enc y))) Θ) : Ops fr Θ (rEqD Kf) (iz r x) (iz s y) K := fun F H v w ok hv hw Q q =>
  ⟨_, _, (d.dp hv).up ok.fh, (e.dp hw).up ok.fh, sh_lay (d.cl hv) (Nat.le_trans (d.dl hv) hd), sh_lay (e.cl hw) (Nat.le_trans (e.dl hw) he), q.go k ok rfl⟩
end
end L2
set_option Elab.async false
set_option linter.all false
set_option maxRecDepth 100000
set_option maxHeartbeats 4000000
namespace L2
open PySem PySem.Spec PyProof.Rows PySem.HErr
instance {α β : Type} {r : Rep α} {s : Rep β} [d : XDat r] [e : XDat s] [b : XBack r] [c : XBack s] [m : XNoS s] : XBack (z2 r s) := ⟨fun {F v x} h hd => by
  simp only [XDat.enc, xp] at h
  obtain ⟨a, vs, h1, h2, h3, h4⟩ := h
  simp only [xpAll] at h4
  obtain ⟨v1, r1, rfl, h5, v2, r2, rfl, h6, rfl⟩ := h4
  simp only [XDat.enc, PyData.depth, PyData.depthAll] at hd
  exact ⟨a, v1, v2, h1, h2.nar (by rw [isSDs_no (List.mem_cons_of_mem _ (List.mem_cons_self ..)) (m.ns x.2)]; rfl), b.bk h5 (by omega), c.bk h6 (by omega)⟩⟩
instance {α β : Type} {r : Rep α} {s : Rep β} [d : XDat r] [e : XDat s] [b : XBack r] [c : XBack s] [n : XNoS r] : XBack (z2 r s) := ⟨fun {F v x} h hd => by
  simp only [XDat.enc, xp] at h
  obtain ⟨a, vs, h1, h2, h3, h4⟩ := h
  simp only [xpAll] at h4
  obtain ⟨v1, r1, rfl, h5, v2, r2, rfl, h6, rfl⟩ := h4
  simp only [XDat.enc, PyData.depth, PyData.depthAll] at hd
  exact ⟨a, v1, v2, h1, h2.nar (by rw [isSDs_no (List.mem_cons_self ..) (n.ns x.1)]; rfl), b.bk h5 (by omega), c.bk h6 (by omega)⟩⟩
end L2
set_option Elab.async false
set_option linter.all false
set_option maxRecDepth 100000
set_option maxHeartbeats 4000000
namespace L2
open PySem PySem.Spec PyProof.Rows PySem.HErr
/-- the classmethod m of the class at C stands in its def -/
structure SrcC (K : PySem.W.Frag) (C : Addr) (m qual : Str) (st : Stmt) (ps : List Str) : Prop where
  ex : ∃ p f fd, FunA K m qual st f fd ∧ ClX.CRead K C (.type "type") ∧ ClX.CMet K C (.type "type") m p f ∧ Binds K fd ps []
structure DefC (P : Program) (w : World) (K : PySem.W.Frag) (mg : Str → Option Value) (base : Heap) (CX : CXT) (k : Nat) (C : Addr) (m : Str) (ps : List Str) (sp : Sp) : Prop where
  ex : ∃ p f fd, LkF K f fd ∧ ClX.CRead K C (.type "type") ∧ ClX.CMet K C (.type "type") m p f ∧ Binds K fd ps [] ∧ FnOk P w K mg base CX k f fd ps sp
section
variable {P : Program} {w : World} {K : PySem.W.Frag} {mg : Str → Option Value} {base : Heap} {CX : CXT} {m qual : Str} {C : Addr} {st : Stmt} {N ps : List Str} {k j : Nat} {sp : Sp}
theorem DefC.mono (D : DefC P w K mg base CX j C m ps sp) (h : j ≤ k) : DefC P w K mg base CX k C m ps sp := by
  obtain ⟨p, f, fd, h1, h2, h3, h4, h5⟩ := D.ex
  exact ⟨p, f, fd, h1, h2, h3, h4, h5.mono h⟩
theorem SrcC.okX (F : SrcC K C m qual st ps) (S : FnScope N ps (defScope st)) (len : ∀ vs H Q E, sp vs H Q E → vs.length = ps.length)
    (hbody : ∀ (f : Addr) (cdv : Value) (A : Around) (outer : List Env) (s : Shared) (H : Hp) (vs : List V) (Q : VK) (E : XK), Room k (A.deeper (envOfC qual (defScope st) s.heap.objs.size f cdv)) → sp vs H Q E →
      ∃ t, PSs (cxOf (L2.CX P w) P w K mg base N qual (defScope st) f cdv A outer s H E) (defBody st) t ∧ t { nx := fun _ H' => Q .non H', rt := Q } (start N vs) H) : DefC P w K mg base (L2.CX P w) (k + 1) C m ps sp := by
  obtain ⟨p, f, fd, h1, h2, h3, h4⟩ := F.ex
  exact ⟨p, f, fd, h1.lk, h2, h3, h4, h1.okX S len (hbody f)⟩
theorem SrcC.okAX {pre : Pre} (F : SrcC K C m qual st ps) (S : FnScope N ps (defScope st)) (len : ∀ qs out err, pre qs out err → qs.length = ps.length)
    (hbody : ∀ (f : Addr) (cdv : Value) (A : Around) (outer : List Env) (s : Shared) (H : Hp) (E : XK) (qs : List Vp) (out : Vp → Prop) (err : Er → Prop), Room k (A.deeper (envOfC qual (defScope st) s.heap.objs.size f cdv)) → pre qs out err →
      ∃ t, PSs (cxOf (L2.CX P w) P w K mg base N qual (defScope st) f cdv A outer s H E) (defBody st) t ∧ ∀ fr Q, Ret fr Q out → Rse fr E err → Kn fr (envOf N qs) [] (t { nx := fun _ H' => Q .non H', rt := Q })) : DefC P w K mg base (L2.CX P w) (k + 1) C m ps (spA pre) := by
  refine F.okX S (fun vs H Q E h => ?_) (fun f cdv A outer s H vs Q E hr h => ?_)
  · obtain ⟨F, qs, out, err, _, h2, h3, _⟩ := h
    rw [← Paired.len h2]
    exact len _ _ _ h3
  · obtain ⟨F, qs, out, err, h1, h2, h3, h4, h5⟩ := h
    obtain ⟨t, ht, hk⟩ := hbody f cdv A outer s H E qs out err hr h3
    exact ⟨t, ht, hk _ Q h4.ret h5.rse _ F H (OkF.start h1) (env_start h2)⟩
theorem SrcC.okWX {α β : Type} {ef : HE → Er} {args : α → List Vp} {r : Rep β} {md : α → DM β} (F : SrcC K C m qual st ps) (S : FnScope N ps (defScope st)) (len : ∀ x, (args x).length = ps.length)
    (hbody : ∀ (f : Addr) (cdv : Value) (A : Around) (outer : List Env) (s : Shared) (H : Hp) (E : XK) (a : α) (Q : β → Prop) (X : HE → Prop), Room k (A.deeper (envOfC qual (defScope st) s.heap.objs.size f cdv)) → md a Q X →
      ∃ t, PSs (cxOf (L2.CX P w) P w K mg base N qual (defScope st) f cdv A outer s H E) (defBody st) t ∧ ∀ fr Qv, RetW fr Qv r Q → RseW fr E ef X → Kn fr (envOf N (args a)) [] (t { nx := fun _ H' => Qv .non H', rt := Qv })) : DefC P w K mg base (L2.CX P w) (k + 1) C m ps (spA (preW ef args r md)) :=
  F.okAX S (fun qs out err ⟨a, Q, X, e, _⟩ => by rw [e]; exact len a) fun f cdv A outer s H E qs out err hr ⟨a, Q, X, e1, h, e2, e3⟩ => by
    subst e1 e2 e3
    obtain ⟨t, ht, hk⟩ := hbody f cdv A outer s H E a Q X hr h
    exact ⟨t, ht, fun fr Qv hret hrse => hk fr Qv (fun y hy Θ => hret _ ⟨y, hy, rfl⟩ Θ) fun z hz Γ Θ => kr_E hrse ⟨z, hz, rfl⟩⟩
end
end L2
set_option Elab.async false
set_option linter.all false
set_option maxRecDepth 100000
set_option maxHeartbeats 4000000
namespace L2
open PySem PySem.Spec PyProof.Rows PySem.HErr
end L2
set_option Elab.async false
set_option linter.all false
set_option maxRecDepth 100000
set_option maxHeartbeats 4000000
namespace L2
open PySem PySem.Spec PyProof.Rows PySem.HErr
end L2
set_option Elab.async false
set_option linter.all false
set_option maxRecDepth 100000
set_option maxHeartbeats 4000000
namespace L2
open PySem PySem.Spec PyProof.Rows PySem.HErr
def Reach (tab : List TRw) (s z : List Int) : Prop := ∃ zs, runF tab s zs = some z
theorem Reach.refl {tab : List TRw} {s : List Int} : Reach tab s s := ⟨[], rfl⟩
theorem Reach.trans {tab : List TRw} {a b c : List Int} (h : Reach tab a b) (g : Reach tab b c) : Reach tab a c := by
  obtain ⟨zs, h⟩ := h
  obtain ⟨ys, g⟩ := g
  exact ⟨zs ++ ys, by rw [runF_app, h]; exact g⟩
theorem Reach.keep {n : Nat} {tab : List TRw} (tk : TabOk n tab) {s z : List Int} (hs : s.length = n) (hn : NonN s) (h : Reach tab s z) : z.length = n ∧ NonN z := by
  obtain ⟨zs, h⟩ := h
  exact runF_keep tk zs hs hn h
end L2
set_option Elab.async false
set_option linter.all false
set_option maxRecDepth 100000
set_option maxHeartbeats 4000000
namespace L2
open PySem PySem.Spec PyProof.Rows PySem.HErr
section
variable {fr : Fr} {Γ : Gam} {Θ : List Cel} {K : Vp → List Cel → Prop}
theorem kn_nrm {Γ' : Gam} {M : L2.St → Hp → Prop} (e : Γ = Γ') (k : Kn fr Γ' Θ M) : Kn fr Γ Θ M := e ▸ k
end
end L2
set_option Elab.async false
set_option linter.all false
set_option maxRecDepth 100000
set_option maxHeartbeats 4000000
namespace L2
open PySem PySem.Spec PyProof.Rows PySem.HErr
end L2
set_option Elab.async false
set_option linter.all false
set_option maxRecDepth 100000
set_option maxHeartbeats 4000000
namespace L2
open PySem PySem.Spec PyProof.Rows PySem.HErr
end L2
set_option Elab.async false
set_option linter.all false
set_option maxRecDepth 100000
set_option maxHeartbeats 4000000
namespace L2
open PySem PySem.Spec PyProof.Rows PySem.HErr
open TL
/-- C.m is a staticmethod: its record at p, its def at g -/
structure SMet (K : PySem.W.Frag) (C : Addr) (m : Str) (p g : Addr) : Prop where
  at_ : PySem.W.findCls K (.ref C) (.type "type") m = some (.get (.builtin "staticmethod.__get__") (.ref p) .none (.ref C))
  rc : ∃ rest, PySem.W.recIn K p "staticmethod" = some (.ref g :: rest)
  kp : PySem.W.keepIn K (.ref g) = true
structure SrcS (K : PySem.W.Frag) (C : Addr) (m qual : Str) (st : Stmt) (ps : List Str) : Prop where
  ex : ∃ p f fd, FunA K m qual st f fd ∧ ClX.CRead K C (.type "type") ∧ SMet K C m p f ∧ Binds K fd ps []
structure DefS (P : Program) (w : World) (K : PySem.W.Frag) (mg : Str → Option Value) (base : Heap) (CX : CXT) (k : Nat) (C : Addr) (m : Str) (ps : List Str) (sp : Sp) : Prop where
  ex : ∃ p f fd, LkF K f fd ∧ ClX.CRead K C (.type "type") ∧ SMet K C m p f ∧ Binds K fd ps [] ∧ FnOk P w K mg base CX k f fd ps sp
section
variable {P : Program} {w : World} {K : PySem.W.Frag} {mg : Str → Option Value} {base : Heap} {CX : CXT} {m qual : Str} {C : Addr} {st : Stmt} {N ps : List Str} {k j : Nat} {sp : Sp}
theorem DefS.mono (D : DefS P w K mg base CX j C m ps sp) (h : j ≤ k) : DefS P w K mg base CX k C m ps sp := by
  obtain ⟨p, f, fd, h1, h2, h3, h4, h5⟩ := D.ex
  exact ⟨p, f, fd, h1, h2, h3, h4, h5.mono h⟩
theorem SrcS.okX (F : SrcS K C m qual st ps) (S : FnScope N ps (defScope st)) (len : ∀ vs H Q E, sp vs H Q E → vs.length = ps.length)
    (hbody : ∀ (f : Addr) (cdv : Value) (A : Around) (outer : List Env) (s : Shared) (H : Hp) (vs : List V) (Q : VK) (E : XK), Room k (A.deeper (envOfC qual (defScope st) s.heap.objs.size f cdv)) → sp vs H Q E →
      ∃ t, PSs (cxOf (L2.CX P w) P w K mg base N qual (defScope st) f cdv A outer s H E) (defBody st) t ∧ t { nx := fun _ H' => Q .non H', rt := Q } (start N vs) H) : DefS P w K mg base (L2.CX P w) (k + 1) C m ps sp := by
  obtain ⟨p, f, fd, h1, h2, h3, h4⟩ := F.ex
  exact ⟨p, f, fd, h1.lk, h2, h3, h4, h1.okX S len (hbody f)⟩
theorem SrcS.okAX {pre : Pre} (F : SrcS K C m qual st ps) (S : FnScope N ps (defScope st)) (len : ∀ qs out err, pre qs out err → qs.length = ps.length)
    (hbody : ∀ (f : Addr) (cdv : Value) (A : Around) (outer : List Env) (s : Shared) (H : Hp) (E : XK) (qs : List Vp) (out : Vp → Prop) (err : Er → Prop), Room k (A.deeper (envOfC qual (defScope st) s.heap.objs.size f cdv)) → pre qs out err →
      ∃ t, PSs (cxOf (L2.CX P w) P w K mg base N qual (defScope st) f cdv A outer s H E) (defBody st) t ∧ ∀ fr Q, Ret fr Q out → Rse fr E err → Kn fr (envOf N qs) [] (t { nx := fun _ H' => Q .non H', rt := Q })) : DefS P w K mg base (L2.CX P w) (k + 1) C m ps (spA pre) := by
  refine F.okX S (fun vs H Q E h => ?_) (fun f cdv A outer s H vs Q E hr h => ?_)
  · obtain ⟨F, qs, out, err, _, h2, h3, _⟩ := h
    rw [← Paired.len h2]
    exact len _ _ _ h3
  · obtain ⟨F, qs, out, err, h1, h2, h3, h4, h5⟩ := h
    obtain ⟨t, ht, hk⟩ := hbody f cdv A outer s H E qs out err hr h3
    exact ⟨t, ht, hk _ Q h4.ret h5.rse _ F H (OkF.start h1) (env_start h2)⟩
theorem SrcS.okWX {α β : Type} {ef : HE → Er} {args : α → List Vp} {r : Rep β} {md : α → DM β} (F : SrcS K C m qual st ps) (S : FnScope N ps (defScope st)) (len : ∀ x, (args x).length = ps.length)
    (hbody : ∀ (f : Addr) (cdv : Value) (A : Around) (outer : List Env) (s : Shared) (H : Hp) (E : XK) (a : α) (Q : β → Prop) (X : HE → Prop), Room k (A.deeper (envOfC qual (defScope st) s.heap.objs.size f cdv)) → md a Q X →
      ∃ t, PSs (cxOf (L2.CX P w) P w K mg base N qual (defScope st) f cdv A outer s H E) (defBody st) t ∧ ∀ fr Qv, RetW fr Qv r Q → RseW fr E ef X → Kn fr (envOf N (args a)) [] (t { nx := fun _ H' => Qv .non H', rt := Qv })) : DefS P w K mg base (L2.CX P w) (k + 1) C m ps (spA (preW ef args r md)) :=
  F.okAX S (fun qs out err ⟨a, Q, X, e, _⟩ => by rw [e]; exact len a) fun f cdv A outer s H E qs out err hr ⟨a, Q, X, e1, h, e2, e3⟩ => by
    subst e1 e2 e3
    obtain ⟨t, ht, hk⟩ := hbody f cdv A outer s H E a Q X hr h
    exact ⟨t, ht, fun fr Qv hret hrse => hk fr Qv (fun y hy Θ => hret _ ⟨y, hy, rfl⟩ Θ) fun z hz Γ Θ => kr_E hrse ⟨z, hz, rfl⟩⟩
end
section
variable {fr : Fr} {Γ : Gam} {Θ : List Cel} {F H : Hp} {K : Vp → List Cel → Prop}
theorem pvs_strs {F : Hp} : ∀ {xs : List Str}, (∀ z ∈ xs, Asc z ∧ z.length ≤ big) → PVs yS F (xs.map V.str) xs
  | [], _ => .nil
  | z :: xs, h => .cons ⟨⟨rfl, (h z (List.mem_cons_self ..)).1⟩, (h z (List.mem_cons_self ..)).2⟩ (pvs_strs fun y hy => h y (List.mem_cons_of_mem _ hy))
/-- the signs of a text, each a text -/
def sgn (c : Nat) : Str := ⟨#[c]⟩
def sgnL (x : Str) : List Str := x.cps.toList.map sgn
theorem sgnL_len {x : Str} : (sgnL x).length = x.length := by
  unfold sgnL
  rw [List.length_map]
  rfl
theorem sgn_one {x : Str} (h : x.length = 1) : ∃ c, x = sgn c := by
  obtain ⟨⟨l⟩⟩ := x
  have h : l.length = 1 := h
  match l, h with
  | [c], _ => exact ⟨c, rfl⟩
theorem sgn_inj {c d : Nat} (h : sgn c = sgn d) : c = d := by
  unfold sgn at h
  injection h with h
  have := congrArg Array.toList h
  simpa using this
theorem sgnL_mem {c : Nat} {z : Str} : sgn c ∈ sgnL z ↔ c ∈ z.cps.toList := by
  unfold sgnL
  rw [List.mem_map]
  constructor
  · rintro ⟨d, hd, e⟩
    rw [← sgn_inj e]; exact hd
  · exact fun h => ⟨c, h, rfl⟩
theorem wi_str {te : TE} {K : List Vp → List Cel → Prop} (w : We fr Γ Θ te fun p Θ1 => ∃ x : Str, p = iz yS x ∧ ((sgnL x).length ≤ big → K ((sgnL x).map (iz yS)) Θ1)) : Wi fr Γ Θ (iStr te) K := fun σ F H ok env R q =>
  w σ F H ok env _ fun p Θ1 ⟨x, e, k⟩ v F1 H1 s1 ok1 hp => by
    subst e
    obtain ⟨⟨rfl, ax⟩, lx⟩ := hp
    refine ⟨x, rfl, q _ Θ1 (k (by rw [sgnL_len]; exact lx)) _ F1 H1 s1 ok1 fun F2 H2 s2 fh => ⟨fun i p hi => ?_, ?_⟩⟩
    · obtain ⟨z, hz, rfl⟩ := get_izs hi
      unfold sgnL at hz
      rw [List.getElem?_map] at hz
      obtain ⟨c, hc, rfl⟩ := Option.map_eq_some_iff.mp hz
      have hlt := (List.getElem?_eq_some_iff.mp hc).1
      refine ⟨by rw [Array.length_toList] at hlt; exact hlt, fun y H3 ⟨e1, d, hd, e2⟩ => ?_⟩
      subst e1 e2
      have hcd : c = d := by
        rw [Array.getElem?_toList] at hc
        rw [hc] at hd
        exact Option.some.inj hd
      subst hcd
      refine ⟨F2, Same.refl _, Same.refl _, fh, Newer.refl _ _, ⟨⟨rfl, fun b hb => ?_⟩, by show 1 ≤ big; decide⟩⟩
      have hb : b ∈ [c] := hb
      rw [List.mem_singleton.mp hb]
      exact ax c (List.mem_of_getElem? hc)
    · show x.cps.size ≤ ((sgnL x).map (iz yS)).length
      rw [List.length_map, sgnL_len]
      exact Nat.le_refl _
theorem oy_inG {x y : Str} (h : x.length = 1) (k : K (iz zB (decide (x ∈ sgnL y))) Θ) : Ops fr Θ (fun x y H Q => ∃ (c : Nat) (z : Str), x = .str ⟨#[c]⟩ ∧ y = .str z ∧ Q (.bl (decide (c ∈ z.cps.toList))) H) (iz yS x) (iz yS y) K := fun F H v w ok hv hw Q q => by
  obtain ⟨⟨rfl, _⟩, _⟩ := hv
  obtain ⟨⟨rfl, _⟩, _⟩ := hw
  obtain ⟨c, rfl⟩ := sgn_one h
  refine ⟨c, y, rfl, rfl, ?_⟩
  have e : decide (c ∈ y.cps.toList) = decide (sgn c ∈ sgnL y) := by simp only [sgnL_mem]
  rw [e]
  exact q.go k ok rfl
theorem oy_ninG {x y : Str} (h : x.length = 1) (k : K (iz zB (!decide (x ∈ sgnL y))) Θ) : Ops fr Θ (fun x y H Q => ∃ (c : Nat) (z : Str), x = .str ⟨#[c]⟩ ∧ y = .str z ∧ Q (.bl (!decide (c ∈ z.cps.toList))) H) (iz yS x) (iz yS y) K := fun F H v w ok hv hw Q q => by
  obtain ⟨⟨rfl, _⟩, _⟩ := hv
  obtain ⟨⟨rfl, _⟩, _⟩ := hw
  obtain ⟨c, rfl⟩ := sgn_one h
  refine ⟨c, y, rfl, rfl, ?_⟩
  have e : decide (c ∈ y.cps.toList) = decide (sgn c ∈ sgnL y) := by simp only [sgnL_mem]
  rw [e]
  exact q.go k ok rfl
end
end L2
set_option Elab.async false
set_option linter.all false
set_option maxRecDepth 100000
set_option maxHeartbeats 4000000
namespace L2
open PySem PySem.Spec PyProof.Rows PySem.HErr
/-- a thing whose value tells it without a heap -/
class FlatR {β : Type} (r : Rep β) : Prop where
  ok : ∀ {F F' : Hp} {v : V} {y : β}, r.p F' v y → r.p F v y
instance : FlatR zI := ⟨fun h => h⟩
instance : FlatR zB := ⟨fun h => h⟩
instance : FlatR yS := ⟨fun h => h⟩
section
variable {fr : Fr} {Γ : Gam} {Θ : List Cel} {F H : Hp} {K : Vp → List Cel → Prop}
theorem nodup_ne {α β : Type} {f : α → β} {l : List α} (nd : (l.map f).Nodup) {i j : Nat} {x y : α} (hi : l[i]? = some x) (hj : l[j]? = some y) (ne : i ≠ j) : f x ≠ f y := fun e => by
  have key : ∀ {i j : Nat} {x y : α}, i < j → l[i]? = some x → l[j]? = some y → f x ≠ f y := fun {i j x y} h hi hj => by
    obtain ⟨l1, e1⟩ := List.getElem?_eq_some_iff.mp hi
    obtain ⟨l2, e2⟩ := List.getElem?_eq_some_iff.mp hj
    have := List.pairwise_iff_getElem.mp nd i j (by rw [List.length_map]; exact l1) (by rw [List.length_map]; exact l2) h
    rw [List.getElem_map, List.getElem_map, e1, e2] at this
    exact this
  rcases Nat.lt_or_gt_of_ne ne with h | h
  · exact key h hi hj e
  · exact key h hj hi e.symm
theorem sps_KNl {α β γ : Type} {args : α → List Vp} {r : Rep β} [fl : FlatR r] {s : Rep γ} {m : α → DM β} {E : L2.St → XK} {ps : List Vp} {Q : β → Prop} {b l a : Addr} {xs : List γ} {i j N cost : Nat} (hj : Θ[j]? = some (cBagC N b l)) (hi : Θ[i]? = some (cY a s xs)) (ij : i ≠ j) (hN : N + cost ≤ LIM) (x : α) (h : m x Q noX)
    (k : ∀ y, Q y → K (iz r y) (Θ.set j (cBagC (N + cost) b l))) (hp : ∃ qs, ps = zAt b :: qs ∧ Paired (fun p q => p = q ∨ (p = zAt a ∧ q = iz (yL s) xs)) qs (args x)) : Sps fr Γ Θ (spC (preKN cost (preBW args r m))) E ps K := fun σ F H vs ok env hps Q' kq => by
  obtain ⟨qs, rfl, hq⟩ := hp
  obtain ⟨h0, ⟨o, h3, ⟨⟨us, rfl, h5⟩, h6⟩⟩, h7⟩ := ok.ce _ (List.mem_of_getElem? hi)
  have h0 : F a = none := h0
  have h3 : H a = some (.lst us) := h3
  have s2 : Same F (upd F a (.lst us)) := same_upd h0
  have ab : a ≠ b := nodup_ne ok.nd hi hj ij
  obtain ⟨Θr, pm, pm2⟩ := perm_set hj
  have ok1 := ok.perm pm
  obtain ⟨b0, ⟨ob, b1, b2⟩, b3⟩ := ok1.ce _ (List.mem_cons_self ..)
  have b0 : F b = none := b0
  have b1 : H b = some ob := b1
  have b3 : fr.H0 b = none := b3
  obtain ⟨ns0, i0, c0, r0, p1, p2, p3, p4, p5⟩ := id b2
  have la : l ≠ a := fun e => by rw [e, h0] at p4; cases p4
  have fh1 : Same (upd F a (.lst us)) H := fun d u e => by
    by_cases q : d = a
    · rw [q, upd_same] at e
      rw [q, h3, e]
    · rw [upd_ne q] at e
      exact ok.fh d u e
  have cells : CellsAt (upd F a (.lst us)) H [cBagC N b l] := ⟨by simp, fun c hc => by
    rw [List.mem_singleton.mp hc]
    exact ⟨by show upd F a (.lst us) b = none; rw [upd_ne (Ne.symm ab)]; exact b0, ob, b1, (cBagC N b l).mono s2 b2⟩⟩
  have hps2 : Paired (fun (p : Vp) v => p.p (upd F a (.lst us)) v) (zAt b :: args x) vs := by
    cases hps with
    | cons g1 g2 =>
      refine .cons g1 ?_
      have key : ∀ {qs rs : List Vp} {vs : List V}, Paired (fun p q => p = q ∨ (p = zAt a ∧ q = iz (yL s) xs)) qs rs → Paired (fun (p : Vp) v => p.p F v) qs vs → Paired (fun (p : Vp) v => p.p (upd F a (.lst us)) v) rs vs := by
        intro qs rs vs hq
        induction hq generalizing vs with
        | nil =>
          intro g
          cases g
          exact .nil
        | cons e _ ih =>
          intro g
          cases g with
          | cons g1 g2 =>
            refine .cons ?_ (ih g2)
            rcases e with e | ⟨e1, e2⟩
            · rw [← e]
              exact Vp.mono _ s2 g1
            · rw [e1] at g1
              have g1 : _ = V.ref a := g1
              rw [e2, g1]
              exact ⟨⟨a, us, rfl, upd_same, Paired.imp2 (fun _ _ h => s.mono s2 h) h5⟩, h6⟩
      exact key hq g2
  refine ⟨upd F a (.lst us), _, [cBagC N b l], _, _, fh1, cells, hps2, ⟨b, l, N, _, _, rfl, rfl, hN, ⟨x, Q, rfl, h, rfl⟩, rfl, rfl⟩, fun p Θ' ⟨⟨y, hy, ep⟩, hΘ⟩ v F' H' ef hv => ?_, fun e Θ' he => he.elim⟩
  subst hΘ ep
  have s3 : Same F F' := s2.trans ef.ff
  have hx : ∀ d o, d ≠ b → H d = some o → H' d = some o := fun d o hd ho => ef.hh d o (fun q => hd (List.mem_singleton.mp q)) ho
  have okc : OkF fr (cBagC (N + cost) b l :: Θr) F H' := by
    refine ⟨s3.trans ef.fh, ok1.f0, ok1.nw, fun d o hB ho => ?_, fun d o ho => ?_, ?_, fun c hc => ?_⟩
    · exact hx d o (fun q => by rw [q, b3] at ho; cases ho) (ok1.h0 d o hB ho)
    · obtain ⟨o', ho'⟩ := ok1.al d o ho
      exact ⟨o', hx d o' (fun q => by rw [q, b3] at ho; cases ho) ho'⟩
    · have := ok1.nd
      rw [List.map_cons] at this ⊢
      exact this
    · rcases List.mem_cons.mp hc with q | q
      · rw [q]
        obtain ⟨_, o2, w1, w2⟩ := ef.ca.2 _ (List.mem_singleton.mpr rfl)
        obtain ⟨ns, i, c, r, g1, g2, g3, g4, g5⟩ := w2
        refine ⟨b0, ⟨o2, w1, ns, i, c, r, g1, g2, g3, ?_, g5⟩, b3⟩
        have := s3 _ _ p4
        rw [g4] at this
        rw [this]
        exact p4
      · obtain ⟨w1, ⟨u, w2, w3⟩, w4⟩ := ok1.ce c (List.mem_cons_of_mem _ q)
        have cb : c.a ≠ b := fun e => by
          have nd := ok1.nd
          rw [List.map_cons, List.nodup_cons] at nd
          exact nd.1 (List.mem_map.mpr ⟨c, q, e⟩)
        exact ⟨w1, ⟨u, hx _ _ cb w2, w3⟩, w4⟩
  exact kq _ _ (k y hy) v F H' (Same.refl F) (okc.perm (pm2 _).symm) (fl.ok hv)
end
end L2
set_option Elab.async false
set_option linter.all false
set_option maxRecDepth 100000
set_option maxHeartbeats 4000000
namespace L2
open PySem PySem.Spec PyProof.Rows PySem.HErr
open L2H (RoomH PinOk)
structure DefE (P : Program) (w : World) (K : PySem.W.Frag) (mg : Str → Option Value) (base : Heap) (CX : CXT) (k : Nat) (x : Str) (ps : List Str) (sp : Value → Option Addr → Addr → Sp) : Prop where
  ex : ∃ f fd, LkF K f fd ∧ mg x = some (.ref f) ∧ PySem.W.keepIn K (.ref f) = true ∧ Binds K fd ps [] ∧ (∀ cls d a vs H Q E, sp cls d a vs H Q E → vs.length = ps.length) ∧
    ∀ (A : Around) (outer : List Env) (s : Shared) (H : Hp) (args : Args) (us : List Value) (vs : List V) (Q : VK) (E : XK) (p : Addr × Obj) (cls : Value) (d : Option Addr), RoomH k A → PinOk outer H s p → Zc cls d p.2 → (∃ vs, p.2.data = .fields vs) →
      Env0 P w K mg base A outer s H → BindsTo s fd args (ps.zip us) → Vals vs us → sp cls d p.1 vs H Q E → codeAny (model P w) A (.call (.ref f) args) (CR CX0 outer P w H s Q E) s
theorem DefE.mono {P : Program} {w : World} {K : PySem.W.Frag} {mg : Str → Option Value} {base : Heap} {CX : CXT} {j k : Nat} {x : Str} {ps : List Str} {sp : Value → Option Addr → Addr → Sp} (D : DefE P w K mg base CX j x ps sp) (h : j ≤ k) : DefE P w K mg base CX k x ps sp := by
  obtain ⟨f, fd, h1, h2, h3, h4, h5, h6⟩ := D.ex
  exact ⟨f, fd, h1, h2, h3, h4, h5, fun A outer s H args us vs Q E p cls d hr => h6 A outer s H args us vs Q E p cls d (hr.mono h)⟩
end L2
set_option Elab.async false
set_option linter.all false
set_option maxRecDepth 100000
set_option maxHeartbeats 4000000
namespace L2
open PySem PySem.Spec PyProof.Rows PySem.HErr
theorem e_all {α : Type} {r : Rep α} [d : EDat r] {Kf : PySem.W.Frag} {F : Hp} {vs : List V} {xs : List α} (h : PVs r F vs xs) : DpAll Kf F vs (xs.map d.enc) ∧ PyData.canLayAll0 (xs.map d.enc) = true ∧ PyData.depthAll (xs.map d.enc) ≤ d.dep := by
  induction h with
  | nil => exact ⟨.nil, by simp only [List.map_nil, PyData.canLayAll0], by simp [PyData.depthAll]⟩
  | cons a _ ih => exact ⟨.cons (d.dp a) ih.1, by simp only [List.map_cons, PyData.canLayAll0, d.cl a, ih.2.1, Bool.and_self], by
      have h1 := d.dl a
      have h2 := ih.2.2
      simp only [List.map_cons, PyData.depthAll]
      omega⟩
instance (priority := 50) edL {α : Type} {r : Rep α} [d : EDat r] : EDat (yL r) := ⟨fun xs => .list (xs.map d.enc), d.dep + 1, fun ⟨⟨a, vs, h1, h2, h3⟩, _⟩ => by subst h1; exact .lst (SqL.of h2) (e_all h3).1, fun ⟨⟨a, vs, h1, h2, h3⟩, _⟩ => by simp only [PyData.canLay0]; exact (e_all (Kf := []) h3).2.1, fun ⟨⟨a, vs, h1, h2, h3⟩, _⟩ => by
  have := (e_all (Kf := []) h3).2.2
  simp only [PyData.depth]
  omega⟩
end L2
set_option Elab.async false
set_option linter.all false
set_option maxRecDepth 100000
set_option maxHeartbeats 4000000
namespace L2
open PySem PySem.Spec PyProof.Rows PySem.HErr
/-- what is no list stays -/
def NoL (F F' : Hp) : Prop := ∀ b o, F b = some o → (∀ us, o ≠ .lst us) → F' b = some o
class NoLst {β : Type} (r : Rep β) : Prop where
  ok : ∀ {F F' : Hp} {v : V} {y : β}, NoL F F' → r.p F v y → r.p F' v y
theorem TupK.nol {F F' : Hp} {a : Addr} {vs : List V} (e : NoL F F') (h : TupK F a vs) : TupK F' a vs := by
  obtain ⟨o, h, q⟩ := h
  exact ⟨o, e _ _ h (fun us hu => by cases hu), q⟩
theorem TupX.nol {n : Bool} {F F' : Hp} {a : Addr} {vs : List V} (e : NoL F F') (h : TupX n F a vs) : TupX n F' a vs := h.imp (fun ⟨h0, h⟩ => ⟨h0, e _ _ h (fun us hu => by cases hu)⟩) fun ⟨h0, h⟩ => ⟨h0, h.nol e⟩
theorem TupB.nol {n : Bool} {F F' : Hp} {a : Addr} {vs : List V} (e : NoL F F') (h : TupB n F a vs) : TupB n F' a vs := h.imp (fun h => e _ _ h (fun us hu => by cases hu)) fun ⟨h0, h⟩ => ⟨h0, h.nol e⟩
theorem PlanAt.nol {F F' : Hp} {C x : Addr} {d : PlanD} (h : PlanAt F C x d) (e : NoL F F') : PlanAt F' C x d := by
  obtain ⟨dx, tp, tb, td, tg, ts, kt, kg, h1, h2, h3, h4, h5, h6, h7, h8⟩ := h.ex
  have t : ∀ {b : Addr} {l : List V}, F b = some (.tup l) → F' b = some (.tup l) := fun q => e _ _ q (fun us hu => by cases hu)
  exact ⟨dx, tp, tb, td, tg, ts, kt, kg, e _ _ h1 (fun us hu => by cases hu), h2.nol e, t h3, e _ _ h4 (fun us hu => by cases hu), e _ _ h5 (fun us hu => by cases hu), h6.nol e, h7.keep fun _ _ => t, h8.keep fun _ _ => t⟩
instance {C : Addr} : NoLst (zPlan C) := ⟨fun e ⟨x, h1, h2, h3⟩ => ⟨x, h1, h2.nol e, h3⟩⟩
end L2
set_option Elab.async false
set_option linter.all false
set_option maxRecDepth 100000
set_option maxHeartbeats 4000000
namespace L2
open PySem PySem.Spec PyProof.Rows PySem.HErr
/-- the global x is the def y -/
structure SrcA (K : PySem.W.Frag) (mg : Str → Option Value) (x y : Str) (st : Stmt) (ps : List Str) : Prop where
  ex : ∃ f fd, FunA K y y st f fd ∧ mg x = some (.ref f) ∧ Binds K fd ps []
section
variable {P : Program} {w : World} {K : PySem.W.Frag} {mg : Str → Option Value} {base : Heap} {CX : CXT} {x y : Str} {st : Stmt} {N ps : List Str} {k : Nat} {sp : Sp} {pre : Pre}
theorem SrcA.ok (F : SrcA K mg x y st ps) (S : FnScope N ps (defScope st)) (len : ∀ vs H Q E, sp vs H Q E → vs.length = ps.length)
    (hbody : ∀ (f : Addr) (cdv : Value) (A : Around) (outer : List Env) (s : Shared) (H : Hp) (vs : List V) (Q : VK) (E : XK), Room k (A.deeper (envOfC y (defScope st) s.heap.objs.size f cdv)) → sp vs H Q E →
      ∃ t, PSs (cxOf CX0 P w K mg base N y (defScope st) f cdv A outer s H E).nox (defBody st) t ∧ t { nx := fun _ H' => Q .non H', rt := Q } (start N vs) H) : Def P w K mg base CX0 (k + 1) x ps sp := by
  obtain ⟨f, fd, h1, h2, h3⟩ := F.ex
  exact ⟨f, fd, h1.lk, h2, h1.kp, h3, h1.ok S len (hbody f)⟩
theorem SrcA.okX (F : SrcA K mg x y st ps) (S : FnScope N ps (defScope st)) (len : ∀ vs H Q E, sp vs H Q E → vs.length = ps.length)
    (hbody : ∀ (f : Addr) (cdv : Value) (A : Around) (outer : List Env) (s : Shared) (H : Hp) (vs : List V) (Q : VK) (E : XK), Room k (A.deeper (envOfC y (defScope st) s.heap.objs.size f cdv)) → sp vs H Q E →
      ∃ t, PSs (cxOf (L2.CX P w) P w K mg base N y (defScope st) f cdv A outer s H E) (defBody st) t ∧ t { nx := fun _ H' => Q .non H', rt := Q } (start N vs) H) : Def P w K mg base (L2.CX P w) (k + 1) x ps sp := by
  obtain ⟨f, fd, h1, h2, h3⟩ := F.ex
  exact ⟨f, fd, h1.lk, h2, h1.kp, h3, h1.okX S len (hbody f)⟩
theorem SrcA.okA (F : SrcA K mg x y st ps) (S : FnScope N ps (defScope st)) (len : ∀ qs out err, pre qs out err → qs.length = ps.length)
    (hbody : ∀ (f : Addr) (cdv : Value) (A : Around) (outer : List Env) (s : Shared) (H : Hp) (E : XK) (qs : List Vp) (out : Vp → Prop) (err : Er → Prop), Room k (A.deeper (envOfC y (defScope st) s.heap.objs.size f cdv)) → pre qs out err →
      ∃ t, PSs (cxOf CX0 P w K mg base N y (defScope st) f cdv A outer s H E).nox (defBody st) t ∧ ∀ fr Q, Ret fr Q out → Kn fr (envOf N qs) [] (t { nx := fun _ H' => Q .non H', rt := Q })) : Def P w K mg base CX0 (k + 1) x ps (spA pre) := by
  refine F.ok S (fun vs H Q E h => ?_) (fun f cdv A outer s H vs Q E hr h => ?_)
  · obtain ⟨F, qs, out, err, _, h2, h3, _⟩ := h
    rw [← Paired.len h2]
    exact len _ _ _ h3
  · obtain ⟨F, qs, out, err, h1, h2, h3, h4, h5⟩ := h
    obtain ⟨t, ht, hk⟩ := hbody f cdv A outer s H E qs out err hr h3
    exact ⟨t, ht, hk _ Q h4.ret _ F H (OkF.start h1) (env_start h2)⟩
theorem SrcA.okAX (F : SrcA K mg x y st ps) (S : FnScope N ps (defScope st)) (len : ∀ qs out err, pre qs out err → qs.length = ps.length)
    (hbody : ∀ (f : Addr) (cdv : Value) (A : Around) (outer : List Env) (s : Shared) (H : Hp) (E : XK) (qs : List Vp) (out : Vp → Prop) (err : Er → Prop), Room k (A.deeper (envOfC y (defScope st) s.heap.objs.size f cdv)) → pre qs out err →
      ∃ t, PSs (cxOf (L2.CX P w) P w K mg base N y (defScope st) f cdv A outer s H E) (defBody st) t ∧ ∀ fr Q, Ret fr Q out → Rse fr E err → Kn fr (envOf N qs) [] (t { nx := fun _ H' => Q .non H', rt := Q })) : Def P w K mg base (L2.CX P w) (k + 1) x ps (spA pre) := by
  refine F.okX S (fun vs H Q E h => ?_) (fun f cdv A outer s H vs Q E hr h => ?_)
  · obtain ⟨F, qs, out, err, _, h2, h3, _⟩ := h
    rw [← Paired.len h2]
    exact len _ _ _ h3
  · obtain ⟨F, qs, out, err, h1, h2, h3, h4, h5⟩ := h
    obtain ⟨t, ht, hk⟩ := hbody f cdv A outer s H E qs out err hr h3
    exact ⟨t, ht, hk _ Q h4.ret h5.rse _ F H (OkF.start h1) (env_start h2)⟩
variable {α β : Type} {ef : HE → Er} {args : α → List Vp} {r : Rep β} {md : α → DM β}
theorem SrcA.okW (F : SrcA K mg x y st ps) (S : FnScope N ps (defScope st)) (len : ∀ x, (args x).length = ps.length)
    (hbody : ∀ (f : Addr) (cdv : Value) (A : Around) (outer : List Env) (s : Shared) (H : Hp) (E : XK) (a : α) (Q : β → Prop) (X : HE → Prop), Room k (A.deeper (envOfC y (defScope st) s.heap.objs.size f cdv)) → md a Q X →
      ∃ t, PSs (cxOf CX0 P w K mg base N y (defScope st) f cdv A outer s H E).nox (defBody st) t ∧ ∀ fr Qv, RetW fr Qv r Q → Kn fr (envOf N (args a)) [] (t { nx := fun _ H' => Qv .non H', rt := Qv })) : Def P w K mg base CX0 (k + 1) x ps (spA (preW ef args r md)) :=
  F.okA S (fun qs out err ⟨a, Q, X, e, _⟩ => by rw [e]; exact len a) fun f cdv A outer s H E qs out err hr ⟨a, Q, X, e1, h, e2, e3⟩ => by
    subst e1 e2 e3
    obtain ⟨t, ht, hk⟩ := hbody f cdv A outer s H E a Q X hr h
    exact ⟨t, ht, fun fr Qv hret => hk fr Qv fun y hy Θ => hret _ ⟨y, hy, rfl⟩ Θ⟩
theorem SrcA.okWX (F : SrcA K mg x y st ps) (S : FnScope N ps (defScope st)) (len : ∀ x, (args x).length = ps.length)
    (hbody : ∀ (f : Addr) (cdv : Value) (A : Around) (outer : List Env) (s : Shared) (H : Hp) (E : XK) (a : α) (Q : β → Prop) (X : HE → Prop), Room k (A.deeper (envOfC y (defScope st) s.heap.objs.size f cdv)) → md a Q X →
      ∃ t, PSs (cxOf (L2.CX P w) P w K mg base N y (defScope st) f cdv A outer s H E) (defBody st) t ∧ ∀ fr Qv, RetW fr Qv r Q → RseW fr E ef X → Kn fr (envOf N (args a)) [] (t { nx := fun _ H' => Qv .non H', rt := Qv })) : Def P w K mg base (L2.CX P w) (k + 1) x ps (spA (preW ef args r md)) :=
  F.okAX S (fun qs out err ⟨a, Q, X, e, _⟩ => by rw [e]; exact len a) fun f cdv A outer s H E qs out err hr ⟨a, Q, X, e1, h, e2, e3⟩ => by
    subst e1 e2 e3
    obtain ⟨t, ht, hk⟩ := hbody f cdv A outer s H E a Q X hr h
    exact ⟨t, ht, fun fr Qv hret hrse => hk fr Qv (fun y hy Θ => hret _ ⟨y, hy, rfl⟩ Θ) fun z hz Γ Θ => kr_E hrse ⟨z, hz, rfl⟩⟩
end
end L2
set_option Elab.async false
set_option linter.all false
set_option maxRecDepth 100000
set_option maxHeartbeats 4000000
namespace L2
open PySem PySem.Spec PyProof.Rows PySem.HErr
end L2
set_option Elab.async false
set_option linter.all false
set_option maxRecDepth 100000
set_option maxHeartbeats 4000000
namespace L2
open PySem PySem.Spec PyProof.Rows PySem.HErr
def SOk (z : Str) : Prop := Asc z ∧ z.length ≤ big
def KVk {α : Type} (r : Rep α) (F : Hp) (kvs : List (Key × V)) (rows : List (Str × α)) : Prop := KVs r F kvs rows ∧ ∀ x ∈ rows, SOk x.1
theorem KVk.mono {α : Type} {r : Rep α} {F F' : Hp} {kvs : List (Key × V)} {rows : List (Str × α)} (h : KVk r F kvs rows) (e : Same F F') : KVk r F' kvs rows := ⟨h.1.mono e, h.2⟩
def yDK {α : Type} (r : Rep α) : Rep (List (Str × α)) := ⟨fun F v rows => (∃ a o kvs, v = .ref a ∧ F a = some (.frz o (.dK kvs)) ∧ KVk r F kvs rows) ∧ rows.length ≤ big, fun e ⟨⟨a, o, kvs, h1, h2, h3⟩, h4⟩ => ⟨⟨a, o, kvs, h1, e _ _ h2, h3.mono e⟩, h4⟩⟩
def cYK {α : Type} (a : Addr) (r : Rep α) (rows : List (Str × α)) : Cel := ⟨a, true, fun F o => (∃ kvs, o = .dK kvs ∧ KVk r F kvs rows) ∧ rows.length ≤ big, fun e ⟨⟨kvs, h1, h2⟩, h3⟩ => ⟨⟨kvs, h1, h2.mono e⟩, h3⟩, fun h e => by subst e; simp at h⟩
theorem KVk.len {α : Type} {r : Rep α} {F : Hp} {kvs : List (Key × V)} {rows : List (Str × α)} (h : KVk r F kvs rows) : kvs.length = rows.length := Paired.len h.1
theorem SOk.of {F : Hp} {v : V} {z : Str} (h : yS.p F v z) : SOk z := ⟨h.1.2, h.2⟩
theorem KVk.put {α : Type} {r : Rep α} {F : Hp} {kvs : List (Key × V)} {rows : List (Str × α)} {n : Str} {x : α} {u : V} (h : KVk r F kvs rows) (hu : r.p F u x) (hn : SOk n) : KVk r F (putK kvs (Sum.inr n) u) (putR rows n x) := ⟨h.1.put hu, fun y hy => by
  unfold putR at hy
  split at hy
  · obtain ⟨z, hz, e⟩ := List.mem_map.mp hy
    subst e
    have := h.2 z hz
    split
    · exact this
    · exact this
  · rcases List.mem_append.mp hy with hy | hy
    · exact h.2 y hy
    · rw [List.mem_singleton.mp hy]
      exact hn⟩
/-- p is a dict with these rows -/
def DicK {α : Type} (fr : Fr) (Θ : List Cel) (p : Vp) (r : Rep α) (rows : List (Str × α)) : Prop := ∀ F H v, OkF fr Θ F H → p.p F v → (∃ a kvs, v = .ref a ∧ Rd H a (.dK kvs) ∧ KVk r F kvs rows) ∧ rows.length ≤ big
section
variable {fr fr' : Fr} {Γ Γ' : Gam} {Θ Θ' : List Cel} {F F' H H' : Hp} {K : Vp → List Cel → Prop} {Qv : VK}
theorem dk_D {α : Type} {r : Rep α} {rows : List (Str × α)} : DicK fr Θ (iz (yDK r) rows) r rows := fun F H v ok ⟨⟨a, o, kvs, h1, h2, h3⟩, h4⟩ => ⟨⟨a, kvs, h1, .inr ⟨o, ok.fh _ _ h2⟩, h3⟩, h4⟩
theorem dk_C {α : Type} {r : Rep α} {rows : List (Str × α)} {a : Addr} {j : Nat} (hj : Θ[j]? = some (cYK a r rows)) : DicK fr Θ (zAt a) r rows := fun F H v ok hv => by
  obtain ⟨_, ⟨o, h2, ⟨⟨kvs, rfl, h4⟩, h5⟩⟩, _⟩ := ok.ce _ (List.mem_of_getElem? hj)
  exact ⟨⟨a, kvs, hv, .inl h2, h4⟩, h5⟩
theorem wk_dget {td ty : TE} (w : We fr Γ Θ td fun p Θ1 => We fr Γ Θ1 ty fun q Θ2 => ∃ (α : Type) (r : Rep α) (rows : List (Str × α)) (n : Str) (x : α), DicK fr Θ2 p r rows ∧ q = iz yS n ∧ getR rows n = some x ∧ K (iz r x) Θ2) : We fr Γ Θ (tDGet td ty) K := fun σ F H ok env Q q =>
  w σ F H ok env _ fun p Θ1 k v F1 H1 s1 ok1 hp => k σ F1 H1 ok1 (env.mono s1) _ fun p2 Θ2 ⟨α, r, rows, n, x, hd, e, hx, kk⟩ v2 F2 H2 s2 ok2 hp2 => by
    subst e
    obtain ⟨⟨a, kvs, h1, h2, h3⟩, _⟩ := hd F2 H2 v ok2 (p.mono s2 hp)
    obtain ⟨u, hu, hr⟩ := (KVs.val (n := n) h3.1).1 x hx
    exact ⟨a, u, h1, .inl ⟨kvs, Sum.inr n, h2, hp2.1.1, hu.symm⟩, q _ _ kk _ F2 H2 (s1.trans s2) ok2 hr⟩
theorem wk_din {td ty : TE} (w : We fr Γ Θ ty fun q Θ1 => We fr Γ Θ1 td fun p Θ2 => ∃ (α : Type) (r : Rep α) (rows : List (Str × α)) (n : Str), DicK fr Θ2 p r rows ∧ q = iz yS n ∧ K (iz zB (getR rows n).isSome) Θ2) : We fr Γ Θ (tDIn ty td) K := fun σ F H ok env Q q =>
  w σ F H ok env _ fun p Θ1 k v F1 H1 s1 ok1 hp => k σ F1 H1 ok1 (env.mono s1) _ fun p2 Θ2 ⟨α, r, rows, n, hd, e, kk⟩ v2 F2 H2 s2 ok2 hp2 => by
    subst e
    obtain ⟨⟨a, kvs, h1, h2, h3⟩, _⟩ := hd F2 H2 v2 ok2 hp2
    refine ⟨a, _, h1, .inl ⟨kvs, Sum.inr n, h2, hp.1.1, rfl⟩, q _ _ kk _ F2 H2 (s1.trans s2) ok2 ?_⟩
    show _ = V.bl _
    rw [opt_some h3.1]
theorem wk_dnew {α : Type} (r : Rep α) (k : ∀ a, K (zAt a) (cYK a r [] :: Θ)) : We fr Γ Θ tDNewK K := fun σ F H ok env Q q a na => q _ _ (k a) _ F _ (Same.refl F) (ok.mkOwn (c := cYK a r []) na rfl ⟨⟨[], rfl, .nil, fun _ h => nomatch h⟩, Nat.zero_le _⟩) rfl
theorem kk_dput {td ty tv : TE} {D : Ends} (w : We fr Γ Θ tv fun p Θ1 => We fr Γ Θ1 td fun pd Θ2 => We fr Γ Θ2 ty fun q Θ3 => ∃ (α : Type) (r : Rep α) (rows : List (Str × α)) (n : Str) (x : α) (a : Addr) (j : Nat), p = iz r x ∧ pd = zAt a ∧ q = iz yS n ∧ Θ3[j]? = some (cYK a r rows) ∧ rows.length < big ∧ Kn fr Γ (Θ3.set j (cYK a r (putR rows n x))) D.nx) : Kn fr Γ Θ (sDPut td ty tv D) := fun σ F H ok env =>
  w σ F H ok env _ fun p Θ1 k v F1 H1 s1 ok1 hp => k σ F1 H1 ok1 (env.mono s1) _ fun p2 Θ2 k2 v2 F2 H2 s2 ok2 hp2 => k2 σ F2 H2 ok2 ((env.mono s1).mono s2) _ fun p3 Θ3 ⟨α, r, rows, n, x, a, j, e1, e2, e3, hj, hl, kk⟩ v3 F3 H3 s3 ok3 hp3 => by
    subst e1 e2 e3
    obtain ⟨_, ⟨o, h2, ⟨⟨kvs, rfl, h4⟩, h5⟩⟩, _⟩ := ok3.ce _ (List.mem_of_getElem? hj)
    refine ⟨a, _, hp2, .inl ⟨kvs, Sum.inr n, h2, hp3.1.1, by rw [h4.len]; exact big_lt h5, rfl⟩, ?_⟩
    exact kk σ F3 _ (ok3.mut hj rfl rfl ⟨⟨_, rfl, h4.put (r.mono (s2.trans s3) hp) (SOk.of hp3)⟩, Nat.le_trans (putR_len rows n x) hl⟩) (((env.mono s1).mono s2).mono s3)
theorem kn_lkK {α : Type} {r : Rep α} {rows : List (Str × α)} {a : Addr} {i j : Nat} {t : TS} {D : Ends} (hi : Γ[i]? = some (some (zAt a))) (hj : Θ[j]? = some (cYK a r rows)) (k : Kn fr (Γ.set i (some (iz (yDK r) rows))) (Θ.eraseIdx j) (t D)) : Kn fr Γ Θ (tLk t D) := fun σ F H ok env => by
  obtain ⟨_, ⟨o, h2, ⟨⟨kvs, rfl, h4⟩, h5⟩⟩, _⟩ := ok.ce _ (List.mem_of_getElem? hj)
  refine ⟨a, _, h2, True.intro, fun od => ?_⟩
  obtain ⟨h0, sF, ok2⟩ := ok.lock (od := od) hj rfl rfl h2
  obtain ⟨v, h1, h3⟩ := env.get hi
  have h3 : v = .ref a := h3
  subst h3
  have e2 := (env.mono sF).set (i := i) (v := .ref a) (p := iz (yDK r) rows) ⟨⟨a, od, kvs, rfl, upd_same, h4.mono sF⟩, h5⟩
  rw [set_sameO h1] at e2
  exact k σ _ _ ok2 e2
theorem kn_lkFK {α : Type} {r : Rep α} {rows : List (Str × α)} {a x C dx : Addr} {fl : List (Str × Vp)} {i j k : Nat} {f : Str} {t : TS} {D : Ends} (hi : Θ[i]? = some (cI x C dx fl)) (hk : fl[k]? = some (f, zAt a)) (hij : i ≠ j) (hj : Θ[j]? = some (cYK a r rows)) (kk : Kn fr Γ ((Θ.set i (cI x C dx (fl.set k (f, iz (yDK r) rows)))).eraseIdx j) (t D)) : Kn fr Γ Θ (tLk t D) := fun σ F H ok env => by
  obtain ⟨_, ⟨o, h2, ⟨⟨kvs, rfl, h4⟩, h5⟩⟩, _⟩ := ok.ce _ (List.mem_of_getElem? hj)
  refine ⟨a, _, h2, True.intro, fun od => ?_⟩
  obtain ⟨h0, sF, ok2⟩ := ok.lock (od := od) hj rfl rfl h2
  have ok3 : OkF fr ((Θ.set i (cI x C dx (fl.set k (f, iz (yDK r) rows)))).eraseIdx j) (upd F a (.frz od (.dK kvs))) (upd H a (.frz od (.dK kvs))) := by
    obtain ⟨i2, e1, e2⟩ := set_erase (x := cI x C dx (fl.set k (f, iz (yDK r) rows))) hij hi
    rw [← e2]
    refine okf_cI ok2 e1 fun us hu => hu.at hk fun v hv => ?_
    have hv : v = .ref a := hv
    subst hv
    exact ⟨⟨a, od, kvs, rfl, upd_same, h4.mono sF⟩, h5⟩
  exact kk σ _ _ ok3 (env.mono sF)
theorem kvk_key {α : Type} {r : Rep α} {kvs : List (Key × V)} {rows : List (Str × α)} (h : KVk r F kvs rows) {i : Nat} {n : Str} (hi : (rows.map (·.1))[i]? = some n) : ∃ v, kvs[i]? = some (Sum.inr n, v) ∧ SOk n := by
  rw [List.getElem?_map] at hi
  obtain ⟨x, hx, e⟩ := Option.map_eq_some_iff.mp hi
  subst e
  obtain ⟨kv, h1, h2, h3⟩ := Paired.get' h.1 hx
  exact ⟨kv.2, by rw [h1, ← h2], h.2 x (List.mem_of_getElem? hx)⟩
/-- the keys of a dict -/
theorem wi_keysK {td : TE} {K : List Vp → List Cel → Prop} (w : We fr Γ Θ td fun p Θ1 => ∃ (α : Type) (r : Rep α) (rows : List (Str × α)), p = iz (yDK r) rows ∧ ((rows.map (·.1)).length ≤ big → K ((rows.map (·.1)).map (iz yS)) Θ1)) : Wi fr Γ Θ (iKeys td) K := fun σ F H ok env R q =>
  w σ F H ok env _ fun p Θ1 ⟨α, r, rows, e, k⟩ v F1 H1 s1 ok1 hp => by
    subst e
    obtain ⟨⟨a, o, kvs, rfl, h2, h3⟩, h4⟩ := hp
    refine ⟨a, o, rfl, .inl ⟨kvs, ok1.fh _ _ h2, q _ Θ1 (k (by rw [List.length_map]; exact h4)) _ F1 H1 s1 ok1 fun F2 H2 s2 fh => ⟨fun i p hi => ?_, ?_⟩⟩⟩
    · obtain ⟨n, hn, rfl⟩ := get_izs hi
      obtain ⟨u, hu, hl⟩ := kvk_key h3 hn
      refine ⟨⟨fh _ _ (s2 _ _ h2), (List.getElem?_eq_some_iff.mp hu).1⟩, fun y H3 ⟨e, k', v', g1, g2⟩ => ?_⟩
      subst e g2
      rw [hu] at g1
      cases g1
      exact ⟨F2, Same.refl _, Same.refl _, fh, Newer.refl _ _, ⟨rfl, hl.1⟩, hl.2⟩
    · rw [List.length_map, List.length_map, ← h3.len]
      exact ⟨fh _ _ (s2 _ _ h2), Nat.le_refl _⟩
/-- the values of a dict -/
theorem wi_valsK {td : TE} {K : List Vp → List Cel → Prop} (w : We fr Γ Θ td fun p Θ1 => ∃ (α : Type) (r : Rep α) (rows : List (Str × α)), p = iz (yDK r) rows ∧ ((rows.map (·.2)).length ≤ big → K ((rows.map (·.2)).map (iz r)) Θ1)) : Wi fr Γ Θ (iVals td) K := fun σ F H ok env R q =>
  w σ F H ok env _ fun p Θ1 ⟨α, r, rows, e, k⟩ v F1 H1 s1 ok1 hp => by
    subst e
    obtain ⟨⟨a, o, kvs, rfl, h2, h3⟩, h4⟩ := hp
    refine ⟨a, o, kvs, rfl, ok1.fh _ _ h2, q _ Θ1 (k (by rw [List.length_map]; exact h4)) _ F1 H1 s1 ok1 fun F2 H2 s2 fh => ⟨fun i p hi => ?_, ?_⟩⟩
    · obtain ⟨n, hn, rfl⟩ := get_izs hi
      rw [List.getElem?_map] at hn
      obtain ⟨x, hx, e⟩ := Option.map_eq_some_iff.mp hn
      subst e
      obtain ⟨kv, h1, h5, h6⟩ := Paired.get' h3.1 hx
      refine ⟨⟨fh _ _ (s2 _ _ h2), (List.getElem?_eq_some_iff.mp h1).1⟩, fun y H3 ⟨e, k', g1⟩ => ?_⟩
      subst e
      rw [h1] at g1
      cases g1
      exact ⟨F2, Same.refl _, Same.refl _, fh, Newer.refl _ _, r.mono s2 h6⟩
    · rw [List.length_map, List.length_map, ← h3.len]
      exact ⟨fh _ _ (s2 _ _ h2), Nat.le_refl _⟩
end
section
variable {fr : Fr} {Γ : Gam} {Θ : List Cel} {F H : Hp} {K : Vp → List Cel → Prop}
/-- len(d) -/
theorem cy_lenK {α : Type} {r : Rep α} {rows : List (Str × α)} {p : Vp} (h : DicK fr Θ p r rows) (k : rows.length ≤ big → K (iz zI rows.length) Θ) : Cbs fr Θ rLenDD [p] K := fun F H vs ok hps Q q => by
  cases hps with
  | cons a b => cases b with
    | nil =>
      obtain ⟨⟨d, kvs, h1, h2, h3⟩, h4⟩ := h F H _ ok a
      exact ⟨d, kvs.length, by rw [h1], .inr ⟨kvs, h2, rfl⟩, q _ _ (k h4) _ F H (Same.refl F) ok (by rw [h3.len]; rfl)⟩
theorem wk_dgetD {td ty tx : TE} (w : We fr Γ Θ td fun p Θ1 => (∃ (α : Type) (r : Rep α) (rows : List (Str × α)), DicK fr Θ1 p r rows) ∧ We fr Γ Θ1 ty fun q Θ2 => We fr Γ Θ2 tx fun pz Θ3 => ∃ (α : Type) (r : Rep α) (rows : List (Str × α)) (n : Str) (x : α), DicK fr Θ3 p r rows ∧ q = iz yS n ∧ pz = iz r x ∧ K (iz r ((getR rows n).getD x)) Θ3) : We fr Γ Θ (tDGet2 td ty tx) K := fun σ F H ok env Q q =>
  w σ F H ok env _ fun p Θ1 ⟨⟨α0, r0, rows0, d0⟩, k⟩ v F1 H1 s1 ok1 hp => by
    obtain ⟨⟨a, kvs0, h1, h2, _⟩, _⟩ := d0 F1 H1 v ok1 hp
    refine ⟨a, h1, .inl ⟨kvs0, h2⟩, ?_⟩
    refine k σ F1 H1 ok1 (env.mono s1) _ fun p2 Θ2 k2 v2 F2 H2 s2 ok2 hp2 => k2 σ F2 H2 ok2 ((env.mono s1).mono s2) _ fun p3 Θ3 ⟨α, r, rows, n, x, hd, e1, e2, kk⟩ v3 F3 H3 s3 ok3 hp3 => ?_
    subst e1 e2
    obtain ⟨⟨a', kvs, g1, g2, g3⟩, _⟩ := hd F3 H3 v ok3 (p.mono (s2.trans s3) hp)
    rw [h1] at g1
    cases g1
    refine ⟨_, .inl ⟨kvs, Sum.inr n, g2, hp2.1.1, rfl⟩, q _ _ kk _ F3 H3 ((s1.trans s2).trans s3) ok3 ?_⟩
    have kv := KVs.val (n := n) g3.1
    cases e : getR rows n with
    | none =>
      rw [kv.2 e]
      exact hp3
    | some y =>
      obtain ⟨u, hu, hr⟩ := kv.1 y e
      rw [hu]
      exact hr
/-- the dict of pairs, the later ones over the earlier -/
def dictP {β : Type} (ps : List (Str × β)) : List (Str × β) := foldR (fun p => p.1) (fun p => p.2) ps
theorem dictP_snoc {β : Type} (ps : List (Str × β)) (p : Str × β) : dictP (ps ++ [p]) = putR (dictP ps) p.1 p.2 := foldR_snoc
theorem dictP_len {β : Type} (ps : List (Str × β)) : (dictP ps).length ≤ ps.length := foldR_len _
/-- {k: v for .. if ..}, a dict of one's own, that needs more -/
theorem we_dcKW {α β : Type} {r : Rep α} {s : Rep β} {wi : TI} {g : TG} {tt : TT} {tk tv : TE} {vs : List Nat}
    (w : Wi fr Γ Θ wi fun its Θ1 => ∃ (xs : List α) (f : α → (Option (Str × β) → Prop) → Prop) (k : List (Str × β) → Prop) (Γ2 : α → Gam), its = xs.map (iz r) ∧ Θ1 = Θ ∧ xs.length ≤ big ∧ (∀ x, TgR g vs (iz r x) (wipeG Γ vs) (Γ2 x)) ∧ compD xs [] f k ∧
      (∀ x c kx, f x kx → Wt fr (Γ2 x) (c :: Θ) tt fun b Θ1 => (b = true → We fr (Γ2 x) Θ1 tk fun q1 Θ2 => ∃ z, q1 = iz yS z ∧ We fr (Γ2 x) Θ2 tv fun q Θ' => Θ' = c :: Θ ∧ ∃ y, q = iz s y ∧ kx (some (z, y))) ∧ (b = false → Θ1 = c :: Θ ∧ kx none)) ∧
      (∀ ys, k ys → ys.length ≤ big → ∀ a, K (zAt a) (cYK a s (dictP ys) :: Θ))) : We fr Γ Θ (tDc wi g tt tk tv vs) K := fun σ F H ok env Q q => by
  refine w σ F H ok env _ fun its Θ1 ⟨xs, f, k, Γ2, e1, e2, hl, tg, hc, hs, hk⟩ J F1 H1 s1 ok1 jok => ?_
  subst e1 e2
  intro D nD
  refine ⟨fun i m H' => m = xs.length - i ∧ i ≤ xs.length ∧ ∃ F2 ys, Same F1 F2 ∧ OkF fr (cYK D s (dictP ys) :: Θ1) F2 H' ∧ ys.length ≤ i ∧ compD (xs.drop i) ys f k, ⟨xs.length, by simp, Nat.zero_le _, F1, [], Same.refl _, ok1.mkOwn (c := cYK D s []) nD rfl ⟨⟨[], rfl, .nil, fun _ h => nomatch h⟩, Nat.zero_le _⟩, Nat.le_refl _, hc⟩, ?_⟩
  rintro i m H' ⟨rfl, hi, F2, ys, s2, ok2, yl, py⟩
  obtain ⟨j1, j2⟩ := jok F2 H' s2 ok2.fh
  by_cases hlt : i < xs.length
  · have hx : xs[i]? = some xs[i] := List.getElem?_eq_getElem hlt
    generalize xs[i] = x at hx
    obtain ⟨jg, jy⟩ := j1 i (iz r x) (by rw [List.getElem?_map, hx]; rfl)
    refine .inr ⟨jg, fun H3 => ∃ F3 ys, Same F1 F3 ∧ OkF fr (cYK D s (dictP ys) :: Θ1) F3 H3 ∧ ys.length ≤ i + 1 ∧ compD (xs.drop (i + 1)) ys f k, fun H3 p => ⟨xs.length - (i + 1), by omega, rfl, hlt, p⟩, fun v H3 y => ?_⟩
    obtain ⟨F3, e1, e2, e3, e4, e5⟩ := jy v H3 y
    have ok3 := ok2.grow e2 e1 e3 e4
    have s3 := s2.trans e1
    have hd : xs.drop i = x :: xs.drop (i + 1) := by
      obtain ⟨hl, e⟩ := List.getElem?_eq_some_iff.mp hx
      rw [List.drop_eq_getElem_cons hl, e]
    rw [hd] at py
    refine tg x (L2.wipe σ vs) F3 H3 v ok3.fh ((env.mono (s1.trans s3)).wipe vs) e5 _ fun σ2 env2 hw => ⟨?_, ?_⟩
    · rw [hw, wipe_idem]
    · refine hs x _ _ py σ2 F3 H3 ok3 env2 _ fun b Θ2 ⟨k1, k2⟩ F4 H4 s4 ok4 => ?_
      cases b with
      | true =>
        rw [if_pos rfl]
        refine k1 rfl σ2 F4 H4 ok4 (env2.mono s4) _ fun p1 Θ3 ⟨z, e6, k3⟩ u1 F5 H5 s5 ok5 hp1 => ?_
        subst e6
        refine k3 σ2 F5 H5 ok5 ((env2.mono s4).mono s5) _ fun p Θ4 ⟨e8, y, e9, hy⟩ u F6 H6 s6 ok6 hp => ?_
        subst e8 e9
        obtain ⟨_, ⟨o, h2, ⟨⟨kvs, rfl, h4⟩, h5⟩⟩, _⟩ := ok6.ce _ (List.mem_cons_self ..)
        have hlen : (dictP ys).length ≤ i := Nat.le_trans (dictP_len _) yl
        have ok7 := ok6.mut (i := 0) (c := cYK D s (dictP ys)) (c' := cYK D s (putR (dictP ys) z y)) (o := .dK (putK kvs (Sum.inr z) u)) rfl rfl rfl ⟨⟨_, rfl, h4.put hp (SOk.of hp1)⟩, Nat.le_trans (putR_len _ _ _) (by omega)⟩
        refine ⟨kvs, Sum.inr z, hp1.1.1, h2, ?_, F6, ys ++ [(z, y)], ((s3.trans s4).trans s5).trans s6, ?_, by rw [List.length_append]; show _ + 1 ≤ _; omega, hy⟩
        · rw [h4.len]
          exact big_lt (by omega)
        · rw [dictP_snoc]
          exact ok7
      | false =>
        rw [if_neg Bool.false_ne_true]
        obtain ⟨e8, hn⟩ := k2 rfl
        subst e8
        have hn : compD (xs.drop (i + 1)) (ys ++ []) f k := hn
        rw [List.append_nil] at hn
        exact ⟨F4, ys, s3.trans s4, ok4, by omega, hn⟩
  · have e : i = xs.length := by omega
    subst e
    rw [List.drop_length] at py
    have yb : ys.length ≤ big := by omega
    refine .inl ⟨by rw [List.length_map] at j2; exact j2, q _ _ (hk ys py yb D) _ F2 H' (s1.trans s2) ok2 rfl⟩
end
end L2
set_option Elab.async false
set_option linter.all false
set_option maxRecDepth 100000
set_option maxHeartbeats 4000000
namespace L2
open PySem PySem.Spec PyProof.Rows PySem.HErr
section
variable {fr : Fr} {Γ : Gam} {Θ Θ2 : List Cel} {K : Bool → List Cel → Prop} {t u : TT}
theorem wt_andCB (w : Wt fr Γ Θ t fun b Θ1 => (b = true → Wt fr Γ Θ1 u K) ∧ (b = false → ∃ Θ2, CLe Θ1 Θ2 ∧ K false Θ2)) : Wt fr Γ Θ (tAnd t u) K := fun σ F H ok env Q q =>
  w σ F H ok env _ fun b Θ1 ⟨k1, k2⟩ F1 H1 s1 ok1 => by
    cases b with
    | true => rw [if_pos rfl]; exact k1 rfl σ F1 H1 ok1 (env.mono s1) Q fun c Θ2 kk F2 H2 s2 => q c Θ2 kk F2 H2 (s1.trans s2)
    | false =>
      rw [if_neg Bool.false_ne_true]
      obtain ⟨Θ2, le, k3⟩ := k2 rfl
      exact q false Θ2 k3 F1 H1 s1 (ok1.cle le)
theorem andKB {b : Bool} {f : (Bool → Prop) → Prop} {k : Bool → Prop} (le : CLe Θ Θ2) (h : andD b f k) (x : f k → Wt fr Γ Θ u fun c Θ' => Θ' = Θ2 ∧ k c) (kk : ∀ c, k c → K c Θ2) : (b = true → Wt fr Γ Θ u K) ∧ (b = false → ∃ Θ2, CLe Θ Θ2 ∧ K false Θ2) :=
  ⟨fun e σ F H ok env Q q => x (h.1 e) σ F H ok env Q fun c Θ' ⟨e1, hc⟩ => q c Θ' (by rw [e1]; exact kk c hc), fun e => ⟨Θ2, le, kk false (h.2 e)⟩⟩
end
end L2
set_option Elab.async false
set_option linter.all false
set_option maxRecDepth 100000
set_option maxHeartbeats 4000000
namespace L2
open PySem PySem.Spec PyProof.Rows PySem.HErr
/-- the texts in ascending order: some list of them that is -/
def sortD (xs : List Str) (k : List Str → Prop) : Prop := xs.length < 64 ∧ ∀ ys : List Str, ys.Perm xs → sortedS ys = true → k ys
section
variable {X : Cx} {K : PySem.W.Frag}
theorem kcr_sortedS (h : X.K = K := by rfl) : CallR X (.builtin "sorted") (rSortedS K) := h ▸ cr_sortedS
end
section
variable {fr : Fr} {Γ : Gam} {Θ : List Cel} {K : Vp → List Cel → Prop}
theorem cy_sortedS {Kf : PySem.W.Frag} {xs : List Str} {k : List Str → Prop} (h : sortD xs k) (kk : ∀ ys, k ys → K (iz (yL yS) ys) Θ) : Cbs fr Θ (rSortedS Kf) [iz (yL yS) xs] K := fun F H vs ok hps Q q => by
  cases hps with
  | cons h1 hp => cases hp with
    | nil =>
      obtain ⟨⟨a, us, rfl, h2, h3⟩, hb⟩ := h1
      have hl : ∀ z ∈ xs, z.length ≤ big := by
        clear h2 h hb
        induction h3 with
        | nil => intro z hz; cases hz
        | cons a _ ih => intro z hz; rcases List.mem_cons.mp hz with rfl | hz; exact a.2; exact ih z hz
      have h4 : PVs zS F us xs := Paired.imp2 (fun _ _ h => h.1) h3
      obtain ⟨rfl, hA⟩ := pvs_S h4
      refine ⟨a, xs, rfl, SqL.of (ok.fh _ _ h2), h.1, fun ys p pm so np => q.new (kk ys (h.2 ys pm so)) ok np ⟨⟨p, _, rfl, upd_same, pvs_strs fun z hz => ?_⟩, ?_⟩⟩
      · have := pm.mem_iff.mp hz
        exact ⟨hA z this, hl z this⟩
      · rw [pm.length_eq]; exact hb
theorem cy_strS {x : Str} (k : K (iz yS x) Θ) : Cbs fr Θ (fun xs H Q => ∃ a, xs = [.str a] ∧ Q (.str a) H) [iz yS x] K := fun F H vs ok hps Q q => by
  cases hps with
  | cons h1 hp => cases hp with
    | nil =>
      have h1' : yS.p F _ x := h1
      obtain ⟨⟨rfl, a⟩, b⟩ := h1
      exact ⟨x, rfl, q.go k ok h1'⟩
end
end L2
namespace L2
open PySem PySem.Spec PyProof.Rows PySem.HErr
instance ed5 {α β γ δ ε : Type} {r : Rep α} {s : Rep β} {t : Rep γ} {u : Rep δ} {o : Rep ε} [d : EDat r] [e : EDat s] [f : EDat t] [g : EDat u] [i : EDat o] : EDat (z5 r s t u o) := ⟨fun x => .tuple [d.enc x.1, e.enc x.2.1, f.enc x.2.2.1, g.enc x.2.2.2.1, i.enc x.2.2.2.2], max (max (max d.dep e.dep) (max f.dep g.dep)) i.dep + 1,
  fun ⟨a, v1, v2, v3, v4, v5, h1, h2, h3, h4, h5, h6, h7⟩ => by subst h1; exact .tup (SqT.of h2) (.cons (d.dp h3) (.cons (e.dp h4) (.cons (f.dp h5) (.cons (g.dp h6) (.cons (i.dp h7) .nil))))),
  fun ⟨a, v1, v2, v3, v4, v5, h1, h2, h3, h4, h5, h6, h7⟩ => by simp only [PyData.canLay0, PyData.canLayAll0, d.cl h3, e.cl h4, f.cl h5, g.cl h6, i.cl h7, Bool.and_self],
  fun ⟨a, v1, v2, v3, v4, v5, h1, h2, h3, h4, h5, h6, h7⟩ => by
    have := d.dl h3
    have := e.dl h4
    have := f.dl h5
    have := g.dl h6
    have := i.dl h7
    simp only [PyData.depth, PyData.depthAll]
    omega⟩
instance ed1 {α : Type} {r : Rep α} [d : EDat r] : EDat (z1 r) := ⟨fun x => .tuple [d.enc x], d.dep + 1, fun ⟨a, v1, h1, h2, h3⟩ => by subst h1; exact .tup (SqT.of h2) (.cons (d.dp h3) .nil),
  fun ⟨a, v1, h1, h2, h3⟩ => by simp only [PyData.canLay0, PyData.canLayAll0, d.cl h3, Bool.and_self],
  fun ⟨a, v1, h1, h2, h3⟩ => by
    have := d.dl h3
    simp only [PyData.depth, PyData.depthAll]
    omega⟩
end L2
set_option Elab.async false
set_option linter.all false
set_option maxRecDepth 100000
set_option maxHeartbeats 4000000
namespace L2
open PySem PySem.Spec PyProof.Rows PySem.HErr
/-- what repr asks of its argument: typed data -/
def rReprD (K : PySem.W.Frag) : List V → Hp → VK → Prop := fun xs H Q => ∃ a d, xs = [.ref a] ∧ Dp K H (.ref a) d ∧ d.showable = true ∧ d.hasDict = false ∧ d.depth ≤ 64 ∧ d.shown.length ≤ sizeLine ∧ Q (.str d.shown) H
theorem call_reprD {X : Cx} {K : PySem.W.Frag} (hg : X.A.guards = some []) (hu : X.A.units + 65 < cLine) (hK : X.K = K := by rfl) : CallR X (.builtin "repr") (rReprD K) := by
  subst hK
  intro pins s σ H xs us Q I r h
  obtain ⟨a, d, rfl, hd, hs, hn, h64, hz, q⟩ := h
  rw [Vals.ref1 r]
  obtain ⟨as, rd⟩ := Dp.reads I d (.ref a) (.ref a) hd rfl
  exact repr_of_reads' rd hs (fun e => by rw [hn] at e; cases e) hg (by omega) (fun _ _ e => e) (fun h' u tk hk => ⟨.str d.shown, H, I.kept hk, ⟨u, rfl⟩, q⟩) hz
/-- a def's promise where nothing is being shown around its call -/
structure FnG (P : Program) (w : World) (K : PySem.W.Frag) (mg : Str → Option Value) (base : Heap) (k : Nat) (f : Addr) (fd : FuncData) (ps : List Str) (sp : Sp) : Prop where
  len : ∀ vs H Q E, sp vs H Q E → vs.length = ps.length
  run : ∀ (A : Around) (outer : List Env) (s : Shared) (H : Hp) (args : Args) (us : List Value) (vs : List V) (Q : VK) (E : XK), A.guards = some [] → Room k A → Env0 P w K mg base A outer s H → BindsTo s fd args (ps.zip us) → Vals vs us → sp vs H Q E →
    codeAny (model P w) A (.call (.ref f) args) (CR CX0 outer P w H s Q E) s
section
variable {P : Program} {w : World} {K : PySem.W.Frag} {mg : Str → Option Value} {base : Heap}
theorem _root_.L2.Fun.okG {x qual : Str} {st : Stmt} {f : Addr} {fd : FuncData} {N ps : List Str} {k : Nat} {sp : Sp} (F : Fun K x qual st f fd) (S : FnScope N ps (defScope st)) (len : ∀ vs H Q E, sp vs H Q E → vs.length = ps.length)
    (body : ∀ (cdv : Value) (A : Around) (outer : List Env) (s : Shared) (H : Hp) (vs : List V) (Q : VK) (E : XK), A.guards = some [] → Room k (A.deeper (envOfC qual (defScope st) s.heap.objs.size f cdv)) → sp vs H Q E →
      ∃ t, PSs (cxOf CX0 P w K mg base N qual (defScope st) f cdv A outer s H E).nox (defBody st) t ∧ t { nx := fun _ H' => Q .non H', rt := Q } (start N vs) H) : FnG P w K mg base (k + 1) f fd ps sp := by
  obtain ⟨oc, od, kV, doc, pm, an, cdv, ct, osl, rfl, lk, hcd⟩ := F.ex
  refine ⟨len, fun A outer s H args us vs Q E hg hr e0 hb r hs => ?_⟩
  have kx : K.In s.heap := e0.mod.kin.keeps fun b o e => (e0.bs b o e).1
  refine codeAny_call_function hr.depth (kx _ _ lk) rfl S.co S.gen rfl (PySem.W.codeRec_of kx hcd) (hb _ _ _ _ (wpAny_newFunctionEnv_cells S.kind (fun y hy => ?_) fun env he s1 x => ?_))
  · exact (S.par y.1 (List.of_mem_zip (b := y.2) hy).1).imp id fun q => ⟨q, PySem.W.cellsFrom_some _ _ _ (.inl q)⟩
  · subst he
    obtain ⟨t, ht, q⟩ := body cdv A outer s H vs Q E hg (hr.deeper _) hs
    refine ⟨(e0.mod.nolimit.keeps fun b o e => (e0.bs b o e).1).keeps x.toInCall.keep, codeAny_func (wpAny_mono (ht.nox.run [] s1 (start N vs) H _ (inv_start S hr.hd e0 (len _ _ _ _ hs) r x) q) (fun fl s' g => ?_) fun _ _ g => g)⟩
    cases fl with
    | brk => obtain ⟨_, _, _, g⟩ := g; exact g.elim
    | cont => obtain ⟨_, _, _, g⟩ := g; exact g.elim
    | next => obtain ⟨_, H', J, g⟩ := g; exact ⟨.non, H', J.os, J.bare, J.base, J.hok, rfl, g⟩
    | ret u => obtain ⟨v, _, H', J, rv, g⟩ := g; exact ⟨v, H', J.os, J.bare, J.base, J.hok, rv, g⟩
/-- the caller's look at the script: what is tracked (H) is the script at most -/
theorem callG {mb : Str → Option Value} {k : Nat} {fa a : Addr} {fd : FuncData} {x : Str} {sp : Sp} {s : Shared} {vs : List Value} (kx : K.In s.heap) (hns : s.heap.Ns mainGlobals mg) (hb : s.heap.Ns builtinsNs mb) (hbb : ∀ x : Str, x ≠ "__name__" → mb x = bootBuiltins x) (hlim : s.heap.NoLimit) (hg : s.gens = #[])
    (ha : s.heap.get? a = some { cls := .type "list", data := .seq vs.toArray }) (hr : Room k callerA) (F : ∀ base : Heap, K.In base → base.Ns mainGlobals mg → FnG P w K mg base k fa fd [x] sp) (bind : ∀ (s : Shared) (u : Value), BindsTo s fd ⟨[u], []⟩ [(x, u)])
    {H : Hp} (only : ∀ b, H b = none ∨ b = a ∧ K.lookup a = none ∧ ∃ ob xs, H b = some (.frz ob (.lst xs))) (hok : HOk P w H s.heap) (hsp : sp [.ref a] H (fun v _ => v = .bl true) fun _ _ _ => False) :
    codeAny (model P w) callerA (.call (.ref fa) ⟨[.ref a], []⟩) (fun r s' => r = .ok (.ret (.bool true)) ∧ OldK s.heap s'.heap ∧ s'.os = s.os ∧ AllBare s'.gens) s := by
  have free : ∀ {b : Addr} {o : Obj} {es : Array DictEntry} {ep : Nat}, s.heap.get? b = some o → o.data = .dict es ep → H b = none := fun {b o es ep} e d => (only b).elim id fun ⟨e1, _⟩ => by
    subst e1
    cases ha.symm.trans e
    exact absurd d (fun q => by cases (show Data.seq vs.toArray _ = Data.dict es ep from q))
  have ns2 : ∀ {b : Addr} {m : Str → Option Value}, s.heap.Ns b m → (hidT s.heap H).Ns b m := fun ⟨o, es, ep, e, d, r⟩ => ⟨o, es, ep, hidT_get e (free e d), d, r⟩
  have kb : K.In (hidT s.heap H) := fun b o e => hidT_get (kx b o e) ((only b).elim id fun ⟨e1, e2, _⟩ => by
    subst e1
    rw [e2] at e
    cases e)
  obtain ⟨mc, l1, l2⟩ := hlim
  have env : Env0 P w K mg (hidT s.heap H) callerA [] s H := ⟨rfl, ⟨kb, ns2 hns, ⟨mb, ns2 hb, hbb⟩, mc, ns2 l1, l2⟩, fun _ _ e => of_hidT e, Nat.le_of_eq (hidT_size _ _), trivial, fun b z => absurd (show b ∈ ([] : List Addr) from z) (by simp), hok, .of_eq hg⟩
  refine codeAny_mono ((F _ kb (ns2 hns)).run callerA [] s H ⟨[.ref a], []⟩ [.ref a] [.ref a] _ _ rfl hr env (bind s (.ref a)) (.cons rfl .nil) hsp) fun r s' g => ?_
  match r, g with
  | .error e, g => exact absurd g id
  | .ok (.ret u), g =>
    obtain ⟨v, H', os, bare, un, hok', rv, q⟩ := g
    subst q
    obtain rfl : u = Value.bool true := rv
    refine ⟨rfl, OldK.of_keep fun b o e => ?_, os, bare⟩
    rcases only b with q | ⟨_, _, ob, xs, z⟩
    · exact un.keep b o e q (by intro z; exact absurd (show b ∈ ([] : List Addr) from z) (by simp)) (by simp)
    · have e1 := (hok b _ z).1
      have e2 := (hok' b _ (un.frzs b ob _ z)).1
      cases e.symm.trans e1
      exact e2
theorem walk_ofG {l : PySem.W.OpenLaw} {n k : Nat} {q : Program} {loose : List Str} {XP : (Str → Option Value) → Heap → Prop} {YP : World → Heap → Prop} {d : DefRec} {K : Params → PySem.W.Frag} {sp : World → Sp} {x : Str}
    (hn : l.most = some n) (hn2 : n ≤ sizeLine) (hdf : d.params.defaults = []) (hr : Room k callerA) (hY : ∀ (w : World) (h : Heap), YP w h → (K w.params).In h)
    (F : ∀ (w : World) (mg : Str → Option Value) (fa : Addr) (h : Heap), (K w.params).In h → h.Ns mainGlobals mg → mg d.name = some (.ref fa) →
      ∃ fd : FuncData, (∀ (s : Shared) (u : Value), BindsTo s fd ⟨[u], []⟩ [(x, u)]) ∧ ∀ base : Heap, (K w.params).In base → base.Ns mainGlobals mg → FnG l.prog w (K w.params) mg base k fa fd [x] (sp w))
    (hsp : ∀ (w : World) (H : Hp) (a : Addr) (ns : List Int), ns.length ≤ n → SqL (K w.params) H a (ns.map V.int) → sp w [.ref a] H (fun v _ => v = .bl true) fun _ _ _ => False) :
    PySem.W.WalkO q loose XP YP l.row.toRowW d [] (fun f vs => PySem.call f vs) := by
  refine Att.attach_call hn hdf fun w s₀ s₁ mg mb fa o pm cd doc a vs ns G Y ho hd hcd hmg hobj hints hlen hg => ?_
  have kx := hY w _ Y
  obtain ⟨fd, hb, hF⟩ := F w mg fa _ kx G.T.g hmg
  have rv := vals_ints hints
  have lv := hints.length
  have hl : ns.length ≤ sizeLine := Nat.le_trans hlen hn2
  cases hk : (K w.params).lookup a with
  | some o' =>
    have e := kx a o' hk
    rw [hobj] at e
    cases e
    exact callG kx G.T.g G.T.b G.T.builtins G.T.nolimit hg hobj hr hF hb (H := fun _ => none) (fun _ => .inl rfl) (fun b u z => by cases (show (none : Option HO) = some u from z)) (hsp w _ a ns hlen (.inr ⟨_, vs.toArray, _, hk, rfl, rfl, rfl, by rw [List.size_toArray, lv]; exact hl, by simpa using rv⟩))
  | none =>
    refine callG kx G.T.g G.T.b G.T.builtins G.T.nolimit hg hobj hr hF hb (H := fun b => if b = a then some (.frz { cls := .type "list", data := .seq vs.toArray } (.lst (ns.map V.int))) else none) (fun b => ?_) (fun b u z => ?_) (hsp w _ a ns hlen (.inl (.inr ⟨{ cls := .type "list", data := .seq vs.toArray }, if_pos rfl⟩)))
    · by_cases e : b = a
      · exact .inr ⟨e, hk, _, _, if_pos e⟩
      · exact .inl (if_neg e)
    · by_cases e : b = a
      · cases (if_pos e).symm.trans z
        subst e
        exact ⟨hobj, by rw [List.length_map]; exact hl, vs, _, rv, hobj⟩
      · cases (if_neg e).symm.trans z
end
end L2
namespace L2
open PySem PySem.Spec PyProof.Rows PySem.HErr
/-- the text that shows typed data: no more is known of it than which data it shows -/
def yR : Rep PyData := ⟨fun _ v d => v = .str d.shown, fun _ h => h⟩
def reprD (d : PyData) (k : PyData → Prop) : Prop := (d.showable = true ∧ d.hasDict = false ∧ d.depth ≤ 64 ∧ d.shown.length ≤ big) ∧ k d
section
variable {fr : Fr} {Γ : Gam} {Θ : List Cel} {K : Vp → List Cel → Prop}
theorem cy_reprC {Kf : PySem.W.Frag} {α : Type} {r : Rep α} [e : EDat r] {xs : List α} {a : Addr} {j : Nat} {k : PyData → Prop} (hj : Θ[j]? = some (cY a r xs)) (h : reprD (.list (xs.map e.enc)) k) (kk : ∀ z, k z → K (iz yR z) Θ) : Cbs fr Θ (rReprD Kf) [zAt a] K := fun F H vs ok hps Q q => by
  cases hps with
  | cons h1 hp => cases hp with
    | nil =>
      obtain ⟨_, ⟨o, h2, ⟨⟨us, rfl, h4⟩, h5⟩⟩, _⟩ := ok.ce _ (List.mem_of_getElem? hj)
      obtain rfl := h1
      obtain ⟨⟨s1, s2, s3, s4⟩, hk⟩ := h
      have go : ∀ {us : List V} {xs : List α}, PVs r F us xs → DpAll Kf H us (xs.map e.enc) := fun {us xs} h4 => by
        induction h4 with
        | nil => exact .nil
        | cons q _ ih => exact .cons ((e.dp (Kf := Kf) q).up ok.fh) ih
      have all := go h4
      exact ⟨a, _, rfl, .lst (SqL.of h2) all, s1, s2, s3, big_line s4, q.go (kk _ hk) ok rfl⟩
theorem oy_neR {d e : PyData} (k : K (iz zB (!decide (d.shown = e.shown))) Θ) : Ops fr Θ rNe (iz yR d) (iz yR e) K := fun F H v w ok hv hw Q q => by
  have hv : v = .str d.shown := hv
  have hw : w = .str e.shown := hw
  subst hv hw
  refine ⟨rfl, ?_⟩
  rw [dec_inj (fun x y => V.str.inj)]
  exact q.go k ok rfl
end
end L2
namespace L2
open PySem PySem.Spec PyProof.Rows PySem.HErr
section
variable {fr : Fr} {Γ Γ' : Gam} {Θ : List Cel} {K : Vp → List Cel → Prop}
theorem we_lendN {te : TE} (ho : ∀ c ∈ Θ, c.own = true ∧ ∀ F o, c.φ F o → ∃ us, o = .lst us) (hΓ : ∀ σ F Fl, LendR Θ F Fl → EnvF Γ σ F → EnvF Γ' σ Fl) (w : We fr Γ' [] te fun p Θ' => Θ' = [] ∧ (∀ F F' v, NoL F F' → p.p F v → p.p F' v) ∧ K p Θ) : We fr Γ Θ te K := fun σ F H ok env Q q => by
  have own : ∀ c ∈ Θ, F c.a = none ∧ (∃ o, H c.a = some o ∧ c.φ F o) ∧ fr.H0 c.a = none := fun c hc => by
    obtain ⟨h1, h2, h3⟩ := ok.ce c hc
    rw [if_pos (ho c hc).1] at h3
    exact ⟨h1, h2, h3⟩
  have keep : ∀ a o, F a = some o → a ∉ Θ.map Cel.a := fun a o h hm => by
    obtain ⟨c, hc, e⟩ := List.mem_map.mp hm
    have := (own c hc).1
    rw [e, h] at this
    cases this
  have sl : Same F (updL F H (Θ.map Cel.a)) := fun a o h => by
    unfold updL
    rw [if_neg (keep a o h)]
    exact h
  have inl : ∀ c ∈ Θ, updL F H (Θ.map Cel.a) c.a = H c.a := fun c hc => by
    unfold updL
    rw [if_pos (List.mem_map.mpr ⟨c, hc, rfl⟩)]
  have okl : OkF fr [] (updL F H (Θ.map Cel.a)) H := by
    refine ⟨fun a o h => ?_, ok.f0.trans sl, fun a o h => ?_, ok.h0, ok.al, List.nodup_nil, fun c hc => nomatch hc⟩
    · unfold updL at h
      split at h
      · exact h
      · exact ok.fh a o h
    · unfold updL at h
      split at h
      · rename_i hm
        obtain ⟨c, hc, e⟩ := List.mem_map.mp hm
        have := (own c hc).2.2
        rw [e] at this
        exact .inr (.inl this)
      · exact ok.nw a o h
  refine w σ _ H okl (hΓ σ F _ ⟨sl, fun c hc => ?_⟩ env) Q fun p Θ' ⟨e2, nl, k⟩ v F1 H1 s1 okr hv => ?_
  · obtain ⟨o, h2, h3⟩ := (own c hc).2.1
    exact ⟨o, by rw [inl c hc]; exact h2, h3⟩
  subst e2
  have nol : NoL F1 (fun a => if a ∈ Θ.map Cel.a then none else F1 a) := fun a o h nu => by
    dsimp only
    rw [if_neg fun hm => ?_]
    · exact h
    · obtain ⟨c, hc, e⟩ := List.mem_map.mp hm
      obtain ⟨o', h2, h3⟩ := (own c hc).2.1
      obtain ⟨us, rfl⟩ := (ho c hc).2 _ _ h3
      have := s1 _ _ (show updL F H (Θ.map Cel.a) c.a = some (.lst us) by rw [inl c hc]; exact h2)
      rw [e, h] at this
      exact nu us (Option.some.inj this)
  have sF : Same F (fun a => if a ∈ Θ.map Cel.a then none else F1 a) := fun a o h => by
    dsimp only
    rw [if_neg (keep a o h)]
    exact s1 _ _ (sl a o h)
  refine q _ _ k v _ H1 sF ⟨fun a o h => ?_, ok.f0.trans sF, fun a o h => ?_, okr.h0, okr.al, ok.nd, fun c hc => ?_⟩ (nl _ _ _ nol hv)
  · have h : (if a ∈ Θ.map Cel.a then none else F1 a) = some o := h
    split at h
    · cases h
    · exact okr.fh a o h
  · have h : (if a ∈ Θ.map Cel.a then none else F1 a) = some o := h
    split at h
    · cases h
    · exact okr.nw a o h
  · obtain ⟨h1, ⟨o, h2, h3⟩, h4⟩ := own c hc
    have hm : c.a ∈ Θ.map Cel.a := List.mem_map.mpr ⟨c, hc, rfl⟩
    refine ⟨if_pos hm, ⟨o, okr.fh _ _ (s1 _ _ (by rw [inl c hc]; exact h2)), c.mono sF h3⟩, by rw [if_pos (ho c hc).1]; exact h4⟩
theorem lst_Y {α : Type} {r : Rep α} {a : Addr} {xs : List α} {F : Hp} {o : HO} (h : (cY a r xs).φ F o) : ∃ us, o = .lst us := by
  obtain ⟨⟨vs, q, _⟩, _⟩ := h
  exact ⟨vs, q⟩
theorem lst_bagC {N : Nat} {b l : Addr} {F : Hp} {o : HO} (h : (cBagC N b l).φ F o) : ∃ us, o = .lst us := by
  obtain ⟨ns, i, c, r, _, _, h, _⟩ := h
  exact ⟨_, h⟩
theorem nol_DK {xs : List (Str × Int)} {F F' : Hp} {v : V} (e : NoL F F') (h : (yDK zI).p F v xs) : (yDK zI).p F' v xs := by
  obtain ⟨⟨a, o, kvs, h1, h2, h3, h4⟩, h5⟩ := h
  exact ⟨⟨a, o, kvs, h1, e _ _ h2 (fun us hu => by cases hu), Paired.imp2 (fun _ _ q => q) h3, h4⟩, h5⟩
theorem nol_in1 {C : Addr} {f : Str} {xs : List (Str × Int)} {F F' : Hp} {v : V} (e : NoL F F') (h : (zIn C fun x => [(f, iz (yDK zI) x)]).p F v xs) : (zIn C fun x => [(f, iz (yDK zI) x)]).p F' v xs := by
  obtain ⟨a, dx, us, h1, h2, h3⟩ := h
  have h4 : FsOk F' [(f, iz (yDK zI) xs)] us := by
    have h3 : FsOk F [(f, iz (yDK zI) xs)] us := h3
    unfold FsOk at h3 ⊢
    cases h3 with
    | cons q r =>
      cases r
      exact Paired.cons ⟨q.1, nol_DK e q.2⟩ .nil
  exact ⟨a, dx, us, h1, e _ _ h2 (fun us hu => by cases hu), h4⟩
end
end L2
namespace L2
open PySem PySem.Spec PyProof.Rows PySem.HErr
section
variable {fr : Fr} {Γ : Gam} {Θ Θ2 : List Cel} {K : Vp → List Cel → Prop}
theorem we_andCB {t u : TE} (w : We fr Γ Θ t fun p Θ1 => ∃ b, p = iz zB b ∧ (b = true → We fr Γ Θ1 u K) ∧ (b = false → ∃ Θ2, CLe Θ1 Θ2 ∧ K (iz zB false) Θ2)) : We fr Γ Θ (tAndV t u) K := fun σ F H ok env Q q =>
  w σ F H ok env _ fun p Θ1 ⟨b, e, k1, k2⟩ v F1 H1 s1 ok1 hp => by
    subst e
    refine ⟨b, hp, ?_⟩
    cases b with
    | true => rw [if_pos rfl]; exact k1 rfl σ F1 H1 ok1 (env.mono s1) Q (q.mono s1)
    | false =>
      rw [if_neg Bool.false_ne_true]
      obtain ⟨Θ2, le, k3⟩ := k2 rfl
      exact q _ Θ2 k3 _ F1 H1 s1 (ok1.cle le) rfl
theorem andKvB {b : Bool} {f : (Bool → Prop) → Prop} {k : Bool → Prop} {u : TE} (le : CLe Θ Θ2) (h : andD b f k) (x : f k → We fr Γ Θ u fun p Θ' => Θ' = Θ2 ∧ ∃ c, p = iz zB c ∧ k c) (kk : ∀ c, k c → K (iz zB c) Θ2) : ∃ b', iz zB b = iz zB b' ∧ (b' = true → We fr Γ Θ u K) ∧ (b' = false → ∃ Θ2, CLe Θ Θ2 ∧ K (iz zB false) Θ2) :=
  ⟨b, rfl, fun e σ F H ok env Q q => x (h.1 e) σ F H ok env Q fun p Θ' ⟨e1, c, e2, hc⟩ => q p Θ' (by rw [e1, e2]; exact kk c hc), fun e => ⟨Θ2, le, kk false (h.2 e)⟩⟩
end
end L2
set_option Elab.async false
set_option linter.all false
set_option maxRecDepth 100000
set_option maxHeartbeats 4000000
namespace Held
open PySem PySem.Spec PyProof.Rows L2 PySem.HErr
local macro_rules | `(tactic| ac_rfl) => `(tactic| (repeat (first | with_reducible refine kn_seq ?_ | with_reducible refine kn_asg ?_ | with_reducible refine kn_ret ?_ | with_reducible refine kn_next ?_ | with_reducible refine we_op ?_ | with_reducible refine we_un ?_ | with_reducible refine wa_nil ?_ | with_reducible refine wa_cons ?_ | with_reducible refine we_cb ?_ | with_reducible refine we_callE ?_ | with_reducible refine we_callS ?_ | with_reducible refine we_cI ?_ | with_reducible refine we_cB ?_ | with_reducible refine we_cN ?_ | (with_reducible refine is_cS ?_; refine we_cS (asc_of (by decide)) ?_) | (with_reducible refine is_var ?_; refine we_var rfl ?_) | with_reducible refine wt_test ?_ | with_reducible refine wt_b ?_ | with_reducible refine wt_not ?_ | with_reducible refine we_not ?_ | with_reducible refine we_sl ?_ | with_reducible refine wo_none ?_ | with_reducible refine wo_some ?_ | with_reducible refine wt_yes ?_ | with_reducible refine ops_I0 ?_ | with_reducible refine ops_B0 ?_ | with_reducible refine uns_I ?_ | with_reducible refine ops_eqI ?_ | with_reducible refine ops_neI ?_ | with_reducible refine ops_eqS ?_ | with_reducible refine ops_neS ?_ | with_reducible refine ops_eqB ?_ | with_reducible refine ops_neB ?_ | with_reducible refine ops_inS seq_L ?_ | with_reducible refine ops_inS seq_T ?_ | with_reducible refine ops_ninS seq_L ?_ | with_reducible refine ops_ninS seq_T ?_ | with_reducible refine ops_inI seq_L ?_ | with_reducible refine ops_inI seq_T ?_ | with_reducible refine ops_ix20 ?_ | with_reducible refine ops_ix21 ?_ | with_reducible refine ops_ix30 ?_ | with_reducible refine ops_ix31 ?_ | with_reducible refine ops_ix32 ?_ | with_reducible refine cb_len seq_L ?_ | with_reducible refine cb_len seq_T ?_ | with_reducible refine cb_list seq_L ?_ | with_reducible refine cb_list seq_T ?_ | with_reducible refine cb_tupleL ?_ | with_reducible refine cb_tupleT ?_ | with_reducible refine cb_any ?_ | with_reducible refine cb_all ?_ | with_reducible refine cb_sum ?_ | with_reducible refine cb_int ?_ | with_reducible refine cb_abs ?_ | with_reducible refine we_fld ?_ | with_reducible refine we_dget ?_ | with_reducible refine we_din ?_ | with_reducible refine we_dnin ?_ | with_reducible refine we_met ?_ | with_reducible refine wi_list ?_ | with_reducible refine wi_tup ?_ | with_reducible refine wi_range ?_ | with_reducible refine wi_range2 ?_ | with_reducible refine kn_if ?_ | with_reducible refine kn_raise ?_ | with_reducible refine ⟨_, fldP_taken (by assumption), ?_⟩ | with_reducible refine ⟨_, fldP_given (by assumption), ?_⟩ | with_reducible refine ⟨_, fldP_places (by assumption), ?_⟩ | with_reducible refine ⟨_, fldP_begin (by assumption), ?_⟩ | with_reducible refine ⟨_, fldP_steps (by assumption), ?_⟩ | with_reducible refine ⟨_, _, _, _, dic_D, rfl, ?_⟩ | refine ⟨ins_plan rfl, ?_⟩ | with_reducible refine we_mk ?_ | with_reducible refine we_cT ?_ | with_reducible refine we_cR ?_ | with_reducible refine ops_isO ?_ | with_reducible refine ops_notO ?_ | with_reducible refine ops_isX ?_ | with_reducible refine ops_notX ?_ | with_reducible refine ops_isN ?_ | with_reducible refine ops_notN ?_ | with_reducible refine ops_eqD (by decide) ?_ | with_reducible refine ops_neD (by decide) ?_ | with_reducible apply wt_and | with_reducible apply wt_or | with_reducible refine im_t (fun _ => ?_) | with_reducible refine im_f (fun _ => ?_) | with_reducible refine im_tv (fun _ => ?_) | with_reducible refine im_fv (fun _ => ?_) | with_reducible refine cb_isi ty_L kit_ll ?_ | with_reducible refine cb_isi ty_T kit_tt ?_ | with_reducible refine cb_isi ty_2 kit_tt ?_ | with_reducible refine cb_isi ty_I kit_ii ?_ | with_reducible refine cb_isi ty_I kit_ib ?_ | with_reducible refine cb_isi ty_B kit_bb ?_ | with_reducible refine cb_isi ty_S kit_ss ?_ | exact ⟨rfl, rfl⟩ | with_reducible refine ⟨_, rfl, ?_⟩ | refine ⟨_, _, _, rfl, ?_⟩ | refine ⟨_, _, _, _, rfl, ?_⟩)))
local macro_rules | `(tactic| bv_omega) => `(tactic| (first | with_reducible refine kn_seq ?_ | with_reducible refine kn_asg ?_ | with_reducible refine kn_ret ?_ | with_reducible refine kn_next ?_ | with_reducible refine we_op ?_ | with_reducible refine we_un ?_ | with_reducible refine wa_nil ?_ | with_reducible refine wa_cons ?_ | with_reducible refine we_cb ?_ | with_reducible refine we_callE ?_ | with_reducible refine we_callS ?_ | with_reducible refine we_cI ?_ | with_reducible refine we_cB ?_ | with_reducible refine we_cN ?_ | (with_reducible refine is_cS ?_; refine we_cS (asc_of (by decide)) ?_) | (with_reducible refine is_var ?_; refine we_var rfl ?_) | with_reducible refine wt_test ?_ | with_reducible refine wt_b ?_ | with_reducible refine wt_not ?_ | with_reducible refine we_not ?_ | with_reducible refine we_sl ?_ | with_reducible refine wo_none ?_ | with_reducible refine wo_some ?_ | with_reducible refine wt_yes ?_ | with_reducible refine ops_I0 ?_ | with_reducible refine ops_B0 ?_ | with_reducible refine uns_I ?_ | with_reducible refine ops_eqI ?_ | with_reducible refine ops_neI ?_ | with_reducible refine ops_eqS ?_ | with_reducible refine ops_neS ?_ | with_reducible refine ops_eqB ?_ | with_reducible refine ops_neB ?_ | with_reducible refine ops_inS seq_L ?_ | with_reducible refine ops_inS seq_T ?_ | with_reducible refine ops_ninS seq_L ?_ | with_reducible refine ops_ninS seq_T ?_ | with_reducible refine ops_inI seq_L ?_ | with_reducible refine ops_inI seq_T ?_ | with_reducible refine ops_ix20 ?_ | with_reducible refine ops_ix21 ?_ | with_reducible refine ops_ix30 ?_ | with_reducible refine ops_ix31 ?_ | with_reducible refine ops_ix32 ?_ | with_reducible refine cb_len seq_L ?_ | with_reducible refine cb_len seq_T ?_ | with_reducible refine cb_list seq_L ?_ | with_reducible refine cb_list seq_T ?_ | with_reducible refine cb_tupleL ?_ | with_reducible refine cb_tupleT ?_ | with_reducible refine cb_any ?_ | with_reducible refine cb_all ?_ | with_reducible refine cb_sum ?_ | with_reducible refine cb_int ?_ | with_reducible refine cb_abs ?_ | with_reducible refine we_fld ?_ | with_reducible refine we_dget ?_ | with_reducible refine we_din ?_ | with_reducible refine we_dnin ?_ | with_reducible refine we_met ?_ | with_reducible refine wi_list ?_ | with_reducible refine wi_tup ?_ | with_reducible refine wi_range ?_ | with_reducible refine wi_range2 ?_ | with_reducible refine kn_if ?_ | with_reducible refine kn_raise ?_ | with_reducible refine ⟨_, fldP_taken (by assumption), ?_⟩ | with_reducible refine ⟨_, fldP_given (by assumption), ?_⟩ | with_reducible refine ⟨_, fldP_places (by assumption), ?_⟩ | with_reducible refine ⟨_, fldP_begin (by assumption), ?_⟩ | with_reducible refine ⟨_, fldP_steps (by assumption), ?_⟩ | with_reducible refine ⟨_, _, _, _, dic_D, rfl, ?_⟩ | refine ⟨ins_plan rfl, ?_⟩ | with_reducible refine we_mk ?_ | with_reducible refine we_cT ?_ | with_reducible refine we_cR ?_ | with_reducible refine ops_isO ?_ | with_reducible refine ops_notO ?_ | with_reducible refine ops_isX ?_ | with_reducible refine ops_notX ?_ | with_reducible refine ops_isN ?_ | with_reducible refine ops_notN ?_ | with_reducible refine ops_eqD (by decide) ?_ | with_reducible refine ops_neD (by decide) ?_ | with_reducible apply wt_and | with_reducible apply wt_or | with_reducible refine im_t (fun _ => ?_) | with_reducible refine im_f (fun _ => ?_) | with_reducible refine im_tv (fun _ => ?_) | with_reducible refine im_fv (fun _ => ?_) | with_reducible refine cb_isi ty_L kit_ll ?_ | with_reducible refine cb_isi ty_T kit_tt ?_ | with_reducible refine cb_isi ty_2 kit_tt ?_ | with_reducible refine cb_isi ty_I kit_ii ?_ | with_reducible refine cb_isi ty_I kit_ib ?_ | with_reducible refine cb_isi ty_B kit_bb ?_ | with_reducible refine cb_isi ty_S kit_ss ?_ | exact ⟨rfl, rfl⟩ | with_reducible refine ⟨_, rfl, ?_⟩ | refine ⟨_, _, _, rfl, ?_⟩ | refine ⟨_, _, _, _, rfl, ?_⟩))
local macro_rules | `(tactic| nofun) => `(tactic| (repeat (first | with_reducible refine kn_seq ?_ | with_reducible refine kn_asg ?_ | with_reducible refine kn_ret ?_ | with_reducible refine kn_next ?_ | with_reducible refine we_op ?_ | with_reducible refine we_un ?_ | with_reducible refine wa_nil ?_ | with_reducible refine wa_cons ?_ | with_reducible refine we_cb ?_ | with_reducible refine we_callE ?_ | with_reducible refine we_callS ?_ | with_reducible refine we_cI ?_ | with_reducible refine we_cB ?_ | with_reducible refine we_cN ?_ | (with_reducible refine is_cS ?_; refine we_cS (asc_of (by decide)) ?_) | (with_reducible refine is_var ?_; first | refine we_varB rfl ?_ | refine we_varP (by assumption) rfl ?_ | refine we_var rfl ?_) | with_reducible refine wt_test ?_ | with_reducible refine wt_b ?_ | with_reducible refine wt_not ?_ | with_reducible refine we_not ?_ | with_reducible refine we_sl ?_ | with_reducible refine wo_none ?_ | with_reducible refine wo_some ?_ | with_reducible refine wt_yes ?_ | with_reducible refine ops_I0 ?_ | with_reducible refine ops_B0 ?_ | with_reducible refine uns_I ?_ | with_reducible refine ops_eqI ?_ | with_reducible refine ops_neI ?_ | with_reducible refine ops_eqS ?_ | with_reducible refine ops_neS ?_ | with_reducible refine ops_eqB ?_ | with_reducible refine ops_neB ?_ | with_reducible refine ops_inS seq_L ?_ | with_reducible refine ops_inS seq_T ?_ | with_reducible refine ops_ninS seq_L ?_ | with_reducible refine ops_ninS seq_T ?_ | with_reducible refine ops_inI seq_L ?_ | with_reducible refine ops_inI seq_T ?_ | with_reducible refine ops_ix20 ?_ | with_reducible refine ops_ix21 ?_ | with_reducible refine ops_ix30 ?_ | with_reducible refine ops_ix31 ?_ | with_reducible refine ops_ix32 ?_ | with_reducible refine cb_len seq_L ?_ | with_reducible refine cb_len seq_T ?_ | with_reducible refine cb_list seq_L ?_ | with_reducible refine cb_list seq_T ?_ | with_reducible refine cb_tupleL ?_ | with_reducible refine cb_tupleT ?_ | with_reducible refine cb_any ?_ | with_reducible refine cb_all ?_ | with_reducible refine cb_sum ?_ | with_reducible refine cb_int ?_ | with_reducible refine cb_abs ?_ | with_reducible refine we_fld ?_ | with_reducible refine we_dget ?_ | with_reducible refine we_din ?_ | with_reducible refine we_dnin ?_ | with_reducible refine we_met ?_ | with_reducible refine wi_list ?_ | with_reducible refine wi_tup ?_ | with_reducible refine wi_range ?_ | with_reducible refine wi_range2 ?_ | with_reducible refine kn_if ?_ | with_reducible refine kn_raise ?_ | with_reducible refine ⟨_, fldP_taken (by assumption), ?_⟩ | with_reducible refine ⟨_, fldP_given (by assumption), ?_⟩ | with_reducible refine ⟨_, fldP_places (by assumption), ?_⟩ | with_reducible refine ⟨_, fldP_begin (by assumption), ?_⟩ | with_reducible refine ⟨_, fldP_steps (by assumption), ?_⟩ | with_reducible refine ⟨_, _, _, _, dic_D, rfl, ?_⟩ | refine ⟨ins_plan rfl, ?_⟩ | with_reducible refine we_mk ?_ | with_reducible refine we_cT ?_ | with_reducible refine we_cR ?_ | with_reducible refine ops_isO ?_ | with_reducible refine ops_notO ?_ | with_reducible refine ops_isX ?_ | with_reducible refine ops_notX ?_ | with_reducible refine ops_isN ?_ | with_reducible refine ops_notN ?_ | with_reducible refine ops_eqD (by decide) ?_ | with_reducible refine ops_neD (by decide) ?_ | with_reducible apply wt_and | with_reducible apply wt_or | with_reducible refine im_t (fun _ => ?_) | with_reducible refine im_f (fun _ => ?_) | with_reducible refine im_tv (fun _ => ?_) | with_reducible refine im_fv (fun _ => ?_) | with_reducible refine cb_isi ty_L kit_ll ?_ | with_reducible refine cb_isi ty_T kit_tt ?_ | with_reducible refine cb_isi ty_2 kit_tt ?_ | with_reducible refine cb_isi ty_I kit_ii ?_ | with_reducible refine cb_isi ty_I kit_ib ?_ | with_reducible refine cb_isi ty_B kit_bb ?_ | with_reducible refine cb_isi ty_S kit_ss ?_ | exact ⟨rfl, rfl⟩ | with_reducible refine ⟨_, rfl, ?_⟩ | refine ⟨_, _, _, rfl, ?_⟩ | refine ⟨_, _, _, _, rfl, ?_⟩)))
local macro_rules | `(tactic| and_intros) => `(tactic| (repeat (first | exact .nil | refine .cons (.inr rfl) ?_ | refine .cons (.inl rfl) ?_)))
local macro_rules | `(tactic| subst_vars) => `(tactic| (try dsimp only [List.set, List.eraseIdx, L2.envOf, List.map, Option.map]))
def topS (i : Nat) : Stmt := PySem.Challenge.pw_heldsteps_k17_tally_values.main.body.getD i (.Pass ⟨0, 0, 0, 0⟩)
section
variable {P : Program} {w : World} {K : PySem.W.Frag} {mg : Str → Option Value} {base : Heap}
def m_draw (m : Int) : DM Int := fun Q _ => drawD m Q
theorem fmod_box {x m : Int} (h : 0 < m) : 0 ≤ x.fmod m ∧ x.fmod m < m := ⟨Int.fmod_nonneg_of_pos _ h, Int.fmod_lt_of_pos _ h⟩
theorem big200 {m : Int} (h0 : 0 < m) (h : m ≤ 10 ^ 40) : m.natAbs < 2 ^ 200 := by
  have e : (10 : Int) ^ 40 < 2 ^ 200 := by decide
  have e2 : ((2 ^ 200 : Nat) : Int) = 2 ^ 200 := by decide
  omega
theorem lim210 {i : Int} {n : Nat} (h0 : 0 ≤ i) (h : i ≤ (n : Int)) (hn : n ≤ LIM) : i.natAbs < 2 ^ 210 := by
  have e : LIM < 2 ^ 210 := by decide
  omega
abbrev s__law_box : Stmt := topS 14
theorem sc__law_box : FnScope ["_law_script"] ["_law_script"] (defScope s__law_box) := ⟨rfl, rfl, rfl, by decide +kernel, rfl, by decide +kernel, by decide +kernel⟩
theorem ok__law_box {k : Nat} (B : Bl mg) (F : Src K mg "_law_box" s__law_box ["_law_script"]) : Def P w K mg base CX0 (k + 1) "_law_box" ["_law_script"] (spN (preBagC K)) := by
  refine F.okN sc__law_box (fun qs out err ⟨_, h, _⟩ => by rw [h]; rfl) (fun f cdv A outer s H E qs out err hr ⟨ns, e1, e2, e3⟩ => ?_)
  subst e1 e2 e3
  refine ⟨_, (pss_one (ps_ret (pe_lst (pa_cons (pe_callTy (kcall_list (K := K)) (by rfl) B.list' (by decide +kernel) (pa_cons (pe_slice (ksl_list (K := K)) (pv 0) po_none (po_some pe_int)) pa_nil)) (pa_cons pe_int (pa_cons pe_int (pa_cons pe_int pa_nil))))))), fun fr Q hret => ?_⟩
  refine kn_ret (we_bagC (wa_cons (we_cb (wa_cons (we_sl (we_var rfl (wo_none (wo_some (we_cI ⟨_, rfl, sy_slScr (wa_nil (cy_list sy_L ?_))⟩)))))))))
  refine wa_cons (we_cI (wa_cons (we_cI (wa_cons (we_cI (wa_nil ⟨_, 0, 7, rfl, fun b l => ?_⟩))))))
  exact hret _ _ ⟨b, l, rfl, rfl⟩ (fun c hc => by rw [List.mem_singleton.mp hc]; rfl) _ [] (by simp)
abbrev s__law_draw : Stmt := topS 15
theorem sc__law_draw : FnScope ["_law_box_here", "_law_limit", "_law_cell", "_law_value"] ["_law_box_here", "_law_limit"] (defScope s__law_draw) := ⟨rfl, rfl, rfl, by decide +kernel, rfl, by decide +kernel, by decide +kernel⟩
theorem ok__law_draw {k : Nat} (B : Bl mg) (F : Src K mg "_law_draw" s__law_draw ["_law_box_here", "_law_limit"]) : Def P w K mg base CX0 (k + 1) "_law_draw" ["_law_box_here", "_law_limit"] (spC (preKN 1 (preBW (fun x : Int => [iz zI x]) zI m_draw))) := by
  refine F.okKN sc__law_draw (fun _ => rfl) (fun f cdv A outer s H E b l N m Q hN hr h => ⟨_, (C8.pss_cut (ps_if (pt_cmpR op_eq (pe_ix (kix_list (K := K)) (pv 0) pe_int (fun _ _ => rfl)) pe_int (nomark _)) (pss_cons (ps_asg pe_int (pg_name (i := 2) sc__law_draw.nd rfl (Or.inl rfl)))
 (C8.pss_cut (ps_if (pt_cmpR op_lt (pe_ix (kix_list (K := K)) (pv 0) pe_int (fun _ _ => rfl)) (pe_callB (kcall_len (K := K)) (by rfl) B.len PySem.boot_len (pa_cons (pe_ix (kix_list (K := K)) (pv 0) pe_int (fun _ _ => rfl)) pa_nil)) (nomark _)) (pss_one (ps_asg (pe_callB call_abs (by rfl) B.abs (by decide +kernel) (pa_cons (pe_callTy call_int1 (by rfl) B.int' (by decide +kernel) (pa_cons (pe_ix (kix_list (K := K)) (pe_ix (kix_list (K := K)) (pv 0) pe_int (fun _ _ => rfl)) (pe_ix (kix_list (K := K)) (pv 0) pe_int (fun _ _ => rfl)) (fun _ _ => rfl)) pa_nil)) pa_nil)) (pg_name (i := 2) sc__law_draw.nd rfl (Or.inl rfl)))) pss_nil)
 (pss_cons (ps_asg (pe_op op_add (pe_ix (kix_list (K := K)) (pv 0) pe_int (fun _ _ => rfl)) pe_int) (pg_sub (pv 0) pe_int set_list))
 (pss_cons (ps_if (pt_cmpR op_lt (pv 2) (pe_op op_pow pe_int pe_int) (nomark _)) (pss_cons (ps_asg (pe_op op_modN (pe_op op_add (pe_op op_add (pe_op op_mul (pe_callTy call_int1 (by rfl) B.int' (by decide +kernel) (pa_cons (pe_ix (kix_list (K := K)) (pv 0) pe_int (fun _ _ => rfl)) pa_nil)) pe_int) (pe_op op_mul (pe_op op_modN (pe_callTy call_int1 (by rfl) B.int' (by decide +kernel) (pa_cons (pv 2) pa_nil)) pe_int) pe_int)) (pe_op op_mul (pe_callTy call_int1 (by rfl) B.int' (by decide +kernel) (pa_cons (pe_ix (kix_list (K := K)) (pv 0) pe_int (fun _ _ => rfl)) pa_nil)) pe_int)) pe_int) (pg_sub (pv 0) pe_int set_list))
 (pss_one (ps_ret (pe_op op_modN (pe_op op_fdivN (pe_op op_add (pe_op op_mul (pe_callTy call_int1 (by rfl) B.int' (by decide +kernel) (pa_cons (pe_ix (kix_list (K := K)) (pv 0) pe_int (fun _ _ => rfl)) pa_nil)) pe_int) (pe_op op_mulW (pe_callTy call_int1 (by rfl) B.int' (by decide +kernel) (pa_cons (pe_ix (kix_list (K := K)) (pv 0) pe_int (fun _ _ => rfl)) pa_nil)) (pe_callTy call_int1 (by rfl) B.int' (by decide +kernel) (pa_cons (pe_ix (kix_list (K := K)) (pv 0) pe_int (fun _ _ => rfl)) pa_nil)))) pe_int) (pv 1))))) pss_nil)
 (pss_one (ps_asg (pv 2) (pg_sub (pv 0) pe_int set_list))))))) pss_nil)
 (pss_cons (ps_asg (pe_op op_modN (pe_callTy call_int1 (by rfl) B.int' (by decide +kernel) (pa_cons (pe_ix (kix_list (K := K)) (pv 0) pe_int (fun _ _ => rfl)) pa_nil)) (pv 1)) (pg_name (i := 3) sc__law_draw.nd rfl (Or.inl rfl)))
 (pss_cons (ps_asg (pe_op op_fdivW (pe_ix (kix_list (K := K)) (pv 0) pe_int (fun _ _ => rfl)) (pv 1)) (pg_sub (pv 0) pe_int set_list))
 (pss_one (ps_ret (pv 3)))))), fun fr Qv hret => ?_⟩)
  obtain ⟨m0, m1, h⟩ := h
  refine kn_bagC (j := 0) rfl fun ns i c r h0 h1 => ?_
  try dsimp only
  have fin : ∀ {fr' : L2.Fr} {i c r : Int} {v : Int}, FrLe fr fr' → 0 ≤ i → i ≤ ((N + 1 : Nat) : Int) → 0 ≤ v → v < m → Rt fr' [cBg b l ns [i, c, r]] Qv (iz zI v) := fun {fr' i c r v} le g1 g2 h3 h4 => rt_bagC (j := 0) rfl g1 g2 ((hret.fine le) _ (h v h3 h4) _ _ (Nat.le_refl _) (.head _))
  have le0 : FrLe fr fr := ⟨rfl, rfl, Same.refl _, fun a o h => .inl ⟨o, h⟩⟩
  refine kn_cut (fun Γ Θ => ∃ i c r : Int, 0 ≤ i ∧ i ≤ ((N + 1 : Nat) : Int) ∧ Γ = [some (zAt b), some (iz zI m), none, none] ∧ Θ = [cBg b l ns [i, c, r]]) ?_ ?_
  · refine kn_if (wt_test (we_op (we_op (we_var rfl (we_cI (ob_ix (j := 0) (m := 1) rfl rfl rfl (we_cI (ops_eqI ⟨_, rfl, ⟨fun hc => ?_, fun hc => ?_⟩⟩))))))))
    · refine kn_seq (kn_asg (we_cI ?_))
      try dsimp only
      refine kn_cut (fun Γ Θ => ∃ cell : Int, Γ = [some (zAt b), some (iz zI m), some (iz zI cell), none] ∧ Θ = [cBg b l ns [i, c, r]]) ?_ ?_
      · refine kn_if (wt_test (we_op (we_op (we_var rfl (we_cI (ob_ix (j := 0) (m := 0) rfl rfl rfl (we_cb (wa_cons (we_op (we_var rfl (we_cI (ob_ix0 (j := 0) rfl (wa_nil (cy_len sy_L fun e => ops_B0 ⟨_, rfl, ⟨fun hd => ?_, fun hd => ?_⟩⟩))))))))))))))
        · have hd := of_decide_eq_true hd
          obtain ⟨j, rfl⟩ : ∃ j : Nat, i = j := ⟨i.toNat, by omega⟩
          have hj : j < ns.length := by omega
          refine kn_asg (we_cb (wa_cons (we_cb (wa_cons (we_op (we_op (we_var rfl (we_cI (ob_ix0 (j := 0) rfl (we_op (we_var rfl (we_cI (ob_ix (j := 0) (m := 0) rfl rfl rfl (oy_ixL (atI_nat (List.getElem?_eq_getElem hj)) (wa_nil (cb_int (wa_nil (cb_abs ?_))))))))))))))))))
          exact kn_mid ⟨_, by and_intros, _, rfl, rfl⟩
        · refine kn_next ?_
          exact kn_mid ⟨_, by and_intros, _, rfl, rfl⟩
      · rintro Γ Θ ⟨cell, rfl, rfl⟩
        refine kn_seq (kb_set (i := 0) (m := 0) (j := 0) rfl (we_op (we_op (we_var rfl (we_cI (ob_ix (j := 0) (m := 0) rfl rfl rfl (we_cI (ops_I0 (we_cI ⟨_, _, rfl, rfl, rfl, by simp, rfl, ?_⟩)))))))))
        try dsimp only
        refine kn_seq (kn_if (wt_test (we_op (we_var rfl (we_op (we_cI (we_cI (ops_IC ⟨by decide, by decide, by decide⟩ (ops_B0 ⟨_, rfl, ⟨fun _ => ?_, fun _ => ?_⟩⟩)))))))))
        · refine kn_seq (kb_set (l := l) (ns := ns) (is := [i + 1, c, r]) (i := 0) (m := 2) (j := 0) rfl ?_)
          refine we_op (we_op (we_op (we_op (we_cb (wa_cons (we_op (we_var rfl (we_cI (ob_ix (j := 0) (m := 2) rfl rfl rfl (wa_nil (cb_int (we_cI (ops_IC (.inr ⟨by decide, by decide⟩) ?_)))))))))))))
          refine we_op (we_op (we_cb (wa_cons (we_var rfl (wa_nil (cb_int (we_cI (ops_IC (C := fun _ j => j ≠ 0) (by decide) (we_cI (ops_IC (.inr ⟨by decide, by decide⟩) (ops_I0 ?_)))))))))))
          refine we_op (we_cb (wa_cons (we_op (we_var rfl (we_cI (ob_ix (j := 0) (m := 0) rfl rfl rfl (wa_nil (cb_int (we_cI (ops_IC (.inr ⟨by decide, by decide⟩) (ops_I0 ?_)))))))))))
          refine we_cI (ops_IC (C := fun _ j => j ≠ 0) (by decide) (we_cI ⟨_, _, rfl, rfl, rfl, by simp, rfl, ?_⟩))
          try dsimp only
          refine kn_ret (we_op (we_op (we_op (we_op (we_cb (wa_cons (we_op (we_var rfl (we_cI (ob_ix (j := 0) (m := 2) rfl rfl rfl (wa_nil (cb_int (we_cI (ops_IC (.inr ⟨by decide, by decide⟩) ?_))))))))))))))
          refine we_op (we_cb (wa_cons (we_op (we_var rfl (we_cI (ob_ix (j := 0) (m := 0) rfl rfl rfl (wa_nil (cb_int ?_))))))))
          refine we_cb (wa_cons (we_op (we_var rfl (we_cI (ob_ix (j := 0) (m := 0) rfl rfl rfl (wa_nil (cb_int ?_)))))))
          have hi2 : (i + 1).natAbs < 2 ^ 210 := lim210 (n := N + 1) (by omega) (by omega) hN
          refine ops_IC (wide_mul hi2 hi2 (by decide) (by decide) (by decide)) (ops_I0 ?_)
          refine we_cI (ops_IC ⟨by decide, by decide⟩ (we_var rfl (ops_IC (C := fun _ j => j ≠ 0) (by omega) ?_)))
          exact fin le0 (by omega) (by omega) (fmod_box m0).1 (fmod_box m0).2
        · refine kn_next ?_
          try dsimp only
          refine kb_set (i := 0) (m := 1) (j := 0) rfl (we_var rfl (we_cI ⟨_, _, rfl, rfl, rfl, by simp, rfl, ?_⟩))
          exact kn_mid ⟨_, by and_intros, _, _, _, by omega, by omega, rfl, rfl⟩
    · refine kn_next ?_
      exact kn_mid ⟨_, by and_intros, i, c, r, h0, by omega, rfl, rfl⟩
  · rintro Γ Θ ⟨i, c, r, h0, h1, rfl, rfl⟩
    refine kn_seq (kn_asg (we_op (we_cb (wa_cons (we_op (we_var rfl (we_cI (ob_ix (j := 0) (m := 1) rfl rfl rfl (wa_nil (cb_int (we_var rfl (ops_IC (C := fun _ j => j ≠ 0) (by omega) ?_))))))))))))
    try dsimp only
    refine kn_seq (kb_set (i := 0) (m := 1) (j := 0) rfl (we_op (we_op (we_var rfl (we_cI (ob_ix (j := 0) (m := 1) rfl rfl rfl (we_var rfl (ops_IC (wide_div (b := 200) m0 (big200 m0 m1) (by decide) (by decide)) (we_cI ⟨_, _, rfl, rfl, rfl, by simp, rfl, ?_⟩)))))))))
    try dsimp only
    refine kn_ret (we_var rfl ?_)
    have fb := fmod_box (x := c) m0
    exact fin le0 h0 h1 fb.1 fb.2
end
section
variable {P : Program} {w : World} {K : PySem.W.Frag} {mg : Str → Option Value} {base : Heap}
abbrev s__law_word : Stmt := topS 16
theorem sc__law_word : FnScope ["_law_box_here", "_law_number_here", "_law_size", "_law_word_here", "_law_k"] ["_law_box_here"] (defScope s__law_word) := ⟨rfl, rfl, rfl, by decide +kernel, rfl, by decide +kernel, by decide +kernel⟩
def m__law_word  : DM Str := fun Q X =>
  CMul (12 : Int) (26 : Int) ∧
  CPow (36 : Int) (11 : Int) ∧
  CMul ((12 : Int) * (26 : Int)) ((36 : Int) ^ ((11 : Int)).toNat) ∧
  m_draw (((12 : Int) * (26 : Int)) * ((36 : Int) ^ ((11 : Int)).toNat)) (fun v4 =>
  ∀ size5, size5 = (Int.fmod v4 (12 : Int)) →
  CDivN v4 (12 : Int) ∧
  ∀ number7, number7 = (Int.fdiv v4 (12 : Int)) →
  ∃ v8, atI (("abcdefghijklmnopqrstuvwxyz" : Str)).cps.toList (Int.fmod number7 (26 : Int)) = some v8 ∧
  ∀ word9, word9 = (⟨#[v8]⟩ : Str) →
  CDivN number7 (26 : Int) ∧
  ∀ number11, number11 = (Int.fdiv number7 (26 : Int)) →
  (-100000 ≤ size5 ∧ size5 ≤ 100000) ∧
  forD (intsF 0 (size5).toNat) (number11, word9) (fun x13 s12 nx bk =>
  ∃ v15, atI (("abcdefghijklmnopqrstuvwxyz0123456789" : Str)).cps.toList (Int.fmod s12.1 (36 : Int)) = some v15 ∧
  (s12.2).length + ((⟨#[v15]⟩ : Str)).length ≤ big ∧
  ∀ word17, word17 = (s12.2 ++ (⟨#[v15]⟩ : Str)) →
  CDivN s12.1 (36 : Int) ∧
  ∀ number19, number19 = (Int.fdiv s12.1 (36 : Int)) →
  nx (number19, word17)) (fun s12 =>
  Q s12.2)) noX
theorem ok__law_word {k : Nat} {cs : EK → Addr} (B : Bl mg) (D__law_draw : Def P w K mg base CX0 k "_law_draw" ["_law_box_here", "_law_limit"] (spC (preKN 1 (preBW (fun x : Int => [iz zI x]) zI m_draw))))
    (F : Src K mg "_law_word" s__law_word ["_law_box_here"]) : Def P w K mg base CX0 (k + 1) "_law_word" ["_law_box_here"] (spC (preKN 1 (preBW (fun x : Unit => []) yS (fun x => m__law_word)))) := by
  refine F.okKN sc__law_word (fun _ => rfl) (fun f cdv A outer s H E b l n x Q hN hr h => ⟨_, (pss_cons (ps_asg (pe_def D__law_draw hr pass0 (pa_cons (pv 0) (pa_cons (pe_op op_mul (pe_op op_mul pe_int pe_int) (pe_op op_pow pe_int pe_int)) pa_nil))) (pg_name (i := 1) sc__law_word.nd rfl (Or.inl rfl)))
 (pss_cons (ps_asg (pe_op op_modN (pv 1) pe_int) (pg_name (i := 2) sc__law_word.nd rfl (Or.inl rfl)))
 (pss_cons (ps_asg (pe_op op_fdivN (pv 1) pe_int) (pg_name (i := 1) sc__law_word.nd rfl (Or.inl rfl)))
 (pss_cons (ps_asg (pe_ix ix_str pe_str (pe_op op_modN (pv 1) pe_int) (fun _ _ => rfl)) (pg_name (i := 3) sc__law_word.nd rfl (Or.inl rfl)))
 (pss_cons (ps_asg (pe_op op_fdivN (pv 1) pe_int) (pg_name (i := 1) sc__law_word.nd rfl (Or.inl rfl)))
 (pss_cons (ps_for PassesOwn.never rfl (pi_range1 (by rfl) B.range (pa_cons (pv 2) pa_nil)) (pg_name (i := 4) sc__law_word.nd rfl (Or.inl rfl)) (pss_cons (ps_asg (pe_op op_add_str (pv 3) (pe_ix ix_str pe_str (pe_op op_modN (pe_callTy call_int1 (by rfl) B.int' (by decide +kernel) (pa_cons (pv 1) pa_nil)) pe_int) (fun _ _ => rfl))) (pg_name (i := 3) sc__law_word.nd rfl (Or.inl rfl)))
 (pss_one (ps_asg (pe_op op_fdivN (pv 1) pe_int) (pg_name (i := 1) sc__law_word.nd rfl (Or.inl rfl))))))
 (pss_one (ps_ret (pv 3))))))))), fun fr Qv hret => ?_⟩)
  replace h : m__law_word Q noX := h
  unfold m__law_word at h
  refine kn_seq (kn_asg (i := 1) (we_callE (wa_cons (we_var rfl (wa_cons (we_op (we_op (we_cI (we_cI ?_)))))))))
  obtain ⟨g1, h⟩ := h
  refine ops_IC g1 (we_op (we_cI (we_cI ?_)))
  obtain ⟨g2, h⟩ := h
  refine ops_IC g2 ?_
  obtain ⟨g3, h⟩ := h
  refine ops_IC g3 (wa_nil ?_)
  refine sps_KN (j := 0) rfl (by have hb : big = 100000 := rfl; omega) (((12 : Int) * (26 : Int)) * ((36 : Int) ^ ((11 : Int)).toNat)) h (fun v4 h => ?_)
  try dsimp only [List.set]
  refine kn_nrm (Γ' := [some (zAt b), some (iz zI v4), none, none, none]) rfl ?_
  try dsimp only
  refine kn_seq (kn_asgL (i := 2) (r := zI) (we_op (we_var rfl (we_cI (ops_IC (C := fun _ j => j ≠ 0) (by decide) (⟨_, rfl, fun size5 esize5 => ?_⟩))))))
  have h := h size5 esize5
  refine kn_nrm (Γ' := [some (zAt b), some (iz zI v4), some (iz zI size5), none, none]) rfl ?_
  try dsimp only
  refine kn_seq (kn_asgL (i := 1) (r := zI) (we_op (we_var rfl (we_cI ?_))))
  obtain ⟨g6, h⟩ := h
  refine ops_IC g6 (⟨_, rfl, fun number7 enumber7 => ?_⟩)
  have h := h number7 enumber7
  refine kn_nrm (Γ' := [some (zAt b), some (iz zI number7), some (iz zI size5), none, none]) rfl ?_
  try dsimp only
  refine kn_seq (kn_asgL (i := 3) (r := yS) (we_op (we_cSy (z := "abcdefghijklmnopqrstuvwxyz") (asc_of (by decide)) (by decide) (we_op (we_var rfl (we_cI (ops_IC (C := fun _ j => j ≠ 0) (by decide) ?_)))))))
  obtain ⟨v8, ev8, h⟩ := h
  refine oy_ixS ev8 (⟨_, rfl, fun word9 eword9 => ?_⟩)
  have h := h word9 eword9
  refine kn_nrm (Γ' := [some (zAt b), some (iz zI number7), some (iz zI size5), some (iz yS word9), none]) rfl ?_
  try dsimp only
  refine kn_seq (kn_asgL (i := 1) (r := zI) (we_op (we_var rfl (we_cI ?_))))
  obtain ⟨g10, h⟩ := h
  refine ops_IC g10 (⟨_, rfl, fun number11 enumber11 => ?_⟩)
  have h := h number11 enumber11
  refine kn_nrm (Γ' := [some (zAt b), some (iz zI number11), some (iz zI size5), some (iz yS word9), none]) rfl ?_
  try dsimp only
  refine kn_seq (kn_forW (r := zI) (S := Int × Str) (fun s12 => [some (zAt b), some (iz zI s12.1), some (iz zI size5), some (iz yS s12.2), none]) (fun s12 => [cBagC (n + 1) b l]) (number11, word9) (wi_range (wa_cons (we_var rfl (wa_nil ?_)))))
  obtain ⟨g14, h⟩ := h
  refine ⟨_, rfl, (by have hb : big = 100000 := rfl; omega), (by have hb : big = 100000 := rfl; omega), ⟨_, _, _, _, _, rfl, rfl, (by and_intros), fun _ _ => tg_name, h, fun fr' le x13 s12 nx M hnx hbk h => ?_, fun s12 h => ?_⟩⟩
  · have hret := hret.fine le
    refine kn_seq (kn_asgL (i := 3) (r := yS) (we_op (we_var rfl (we_op (we_cSy (z := "abcdefghijklmnopqrstuvwxyz0123456789") (asc_of (by decide)) (by decide) (we_op (we_cb (wa_cons (we_var rfl (wa_nil (cb_int (we_cI (ops_IC (C := fun _ j => j ≠ 0) (by decide) ?_)))))))))))))
    obtain ⟨v15, ev15, h⟩ := h
    refine oy_ixS ev15 ?_
    obtain ⟨g16, h⟩ := h
    refine oy_addS g16 (⟨_, rfl, fun word17 eword17 => ?_⟩)
    have h := h word17 eword17
    refine kn_nrm (Γ' := [some (zAt b), some (iz zI s12.1), some (iz zI size5), some (iz yS word17), some (iz zI x13)]) rfl ?_
    try dsimp only
    refine kn_asgL (i := 1) (r := zI) (we_op (we_var rfl (we_cI ?_)))
    obtain ⟨g18, h⟩ := h
    refine ops_IC g18 (⟨_, rfl, fun number19 enumber19 => ?_⟩)
    have h := h number19 enumber19
    exact hnx (number19, word17) _ _ h (by and_intros) rfl
  try dsimp only
  refine kn_ret (we_var rfl ?_)
  exact hret _ h _ _ (by have hb : big = 100000 := rfl; omega) (List.mem_of_getElem? (i := 0) rfl)
abbrev s__law_fresh : Stmt := topS 17
theorem sc__law_fresh : FnScope ["_law_box_here", "_law_used", "_law_word_here", "_law_k"] ["_law_box_here", "_law_used"] (defScope s__law_fresh) := ⟨rfl, rfl, rfl, by decide +kernel, rfl, by decide +kernel, by decide +kernel⟩
def m__law_fresh (p_law_used : (List Str)) : DM Str := fun Q X =>
  m__law_word  (fun v1 =>
  forD (intsF 0 ((60 : Int)).toNat) v1 (fun x3 s2 nx bk =>
  ifD (!decide (s2 ∈ p_law_used)) (
  Q s2) (
  ∃ v4, atI (("abcdefghijklmnopqrstuvwxyz" : Str)).cps.toList (Int.fmod x3 (26 : Int)) = some v4 ∧
  CStr x3 ∧
  ((⟨#[v4]⟩ : Str)).length + ((numS x3)).length ≤ big ∧
  ∀ word7, word7 = ((⟨#[v4]⟩ : Str) ++ (numS x3)) →
  nx word7)) (fun s2 =>
  Q s2)) noX
theorem ok__law_fresh {k : Nat} {cs : EK → Addr} (B : Bl mg) (D__law_word : Def P w K mg base CX0 k "_law_word" ["_law_box_here"] (spC (preKN 1 (preBW (fun x : Unit => []) yS (fun x => m__law_word)))))
    (F : Src K mg "_law_fresh" s__law_fresh ["_law_box_here", "_law_used"]) : Def P w K mg base CX0 (k + 1) "_law_fresh" ["_law_box_here", "_law_used"] (spC (preKN 1 (preBW (fun x : (List Str) => [iz (yL yS) x]) yS (fun x => m__law_fresh x)))) := by
  refine F.okKN sc__law_fresh (fun _ => rfl) (fun f cdv A outer s H E b l n p_law_used Q hN hr h => ⟨_, (pss_cons (ps_asg (pe_def D__law_word hr pass0 (pa_cons (pv 0) pa_nil)) (pg_name (i := 2) sc__law_fresh.nd rfl (Or.inl rfl)))
 (pss_cons (ps_for PassesOwn.never rfl (pi_range1 (by rfl) B.range (pa_cons pe_int pa_nil)) (pg_name (i := 3) sc__law_fresh.nd rfl (Or.inl rfl)) (pss_cons (ps_if (pt_cmpR (kop_notIn (K := K)) (pv 2) (pv 1) rfl) (pss_one (ps_ret (pv 2))) pss_nil)
 (pss_one (ps_asg (pe_op op_add_str (pe_ix ix_str pe_str (pe_op op_modN (pv 3) pe_int) (fun _ _ => rfl)) (pe_callTy call_str_int (by rfl) B.str' (by decide +kernel) (pa_cons (pv 3) pa_nil))) (pg_name (i := 2) sc__law_fresh.nd rfl (Or.inl rfl))))))
 (pss_one (ps_ret (pv 2))))), fun fr Qv hret => ?_⟩)
  replace h : m__law_fresh p_law_used Q noX := h
  unfold m__law_fresh at h
  refine kn_seq (kn_asg (i := 2) (we_callE (wa_cons (we_var rfl (wa_nil ?_)))))
  refine sps_KN (j := 0) rfl (by have hb : big = 100000 := rfl; omega) () h (fun v1 h => ?_)
  try dsimp only [List.set]
  try dsimp only
  refine kn_seq (kn_forW (r := zI) (S := Str) (fun s2 => [some (zAt b), some (iz (yL yS) p_law_used), some (iz yS s2), none]) (fun s2 => [cBagC (n + 1) b l]) v1 (wi_range (wa_cons (we_cI (wa_nil (⟨_, rfl, (by have hb : big = 100000 := rfl; omega), (by have hb : big = 100000 := rfl; omega), ⟨_, _, _, _, _, rfl, rfl, (by and_intros), fun _ _ => tg_name, h, fun fr' le x3 s2 nx M hnx hbk h => ?_, fun s2 h => ?_⟩⟩))))))
  · have hret := hret.fine le
    refine kn_seq (kn_if (wt_test (we_op (we_var rfl (we_var rfl (oy_ninS sy_L (⟨_, rfl, ⟨fun hc => ?_, fun hc => ?_⟩⟩)))))))
    · have h := h.1 hc
      refine kn_ret (we_var rfl ?_)
      exact hret _ h _ _ (by have hb : big = 100000 := rfl; omega) (List.mem_of_getElem? (i := 0) rfl)
    · have h := h.2 hc
      refine kn_next ?_
      try dsimp only
      refine kn_asgL (i := 2) (r := yS) (we_op (we_op (we_cSy (z := "abcdefghijklmnopqrstuvwxyz") (asc_of (by decide)) (by decide) (we_op (we_var rfl (we_cI (ops_IC (C := fun _ j => j ≠ 0) (by decide) ?_)))))))
      obtain ⟨v4, ev4, h⟩ := h
      refine oy_ixS ev4 (we_cb (wa_cons (we_var rfl (wa_nil ?_))))
      obtain ⟨g5, h⟩ := h
      refine cy_str g5 ?_
      obtain ⟨g6, h⟩ := h
      refine oy_addS g6 (⟨_, rfl, fun word7 eword7 => ?_⟩)
      have h := h word7 eword7
      exact hnx word7 _ _ h (by and_intros) rfl
  try dsimp only
  refine kn_ret (we_var rfl ?_)
  exact hret _ h _ _ (by have hb : big = 100000 := rfl; omega) (List.mem_of_getElem? (i := 0) rfl)
end
section
variable {P : Program} {w : World} {K : PySem.W.Frag} {mg : Str → Option Value} {base : Heap}
abbrev s_is_word : Stmt := topS 8
theorem sc_is_word : FnScope ["word", "sign"] ["word"] (defScope s_is_word) := ⟨rfl, rfl, rfl, by decide +kernel, rfl, by decide +kernel, by decide +kernel⟩
def m_is_word (p_word : Str) : DM Bool := fun Q X =>
  ifD (!(decide ((1 : Int) ≤ ((p_word).length : Int)) && decide (((p_word).length : Int) ≤ (12 : Int)))) (
  Q false) (
  ∃ v2, atI (p_word).cps.toList (0 : Int) = some v2 ∧
  (⟨#[v2]⟩ : Str).length = 1 ∧
  ifD (!decide ((⟨#[v2]⟩ : Str) ∈ sgnL LETTERS)) (
  Q false) (
  mapD (sgnL p_word) [] (fun x4 k5 =>
  x4.length = 1 ∧
  orD (decide (x4 ∈ sgnL LETTERS)) (fun k11 => x4.length = 1 ∧
  k11 (decide (x4 ∈ sgnL DIGITS))) (fun c10 =>
  k5 c10)) (fun ys6 =>
  Q ((ys6).all id))))
theorem ok_is_word {k : Nat} {cs : EK → Addr} (B : Bl mg) (g_MOST_SIGNS : Glo mg "MOST_SIGNS" (.int (12 : Int))) (g_LETTERS : Glo mg "LETTERS" (.str LETTERS)) (g_DIGITS : Glo mg "DIGITS" (.str DIGITS))
    (F : Src K mg "is_word" s_is_word ["word"]) : Def P w K mg base CX0 (k + 1) "is_word" ["word"] (spA (preW (erW cs) (fun x : Str => [iz yS x]) zB (fun x => m_is_word x))) := by
  refine F.okW sc_is_word (fun _ => rfl) (fun f cdv A outer s H E p_word Q X hr h => ⟨_, (pss_cons (ps_if (pt_not (pt_chain op_le op_le pe_int (pe_callB call_len_str (by rfl) B.len PySem.boot_len (pa_cons (pv 0) pa_nil)) (pe_glo g_MOST_SIGNS))) (pss_one (ps_ret pe_bl)) pss_nil)
 (pss_cons (ps_if (pt_cmpR op_notIn_sign (pe_ix ix_str (pv 0) pe_int (fun _ _ => rfl)) (pe_glo g_LETTERS) rfl) (pss_one (ps_ret pe_bl)) pss_nil)
 (pss_one (ps_ret (pe_callB (kcr_all (K := K) rfl) (by rfl) B.all' (by decide +kernel) (pa_cons (pe_lc (own := [("sign", 1)]) (g := gName 1) (by rfl) sc_is_word.nd (pi_str (pv 0)) (blkOk_by (N := ["word", "sign"]) (sc := defScope s_is_word) (by decide +kernel)) (fun _ _ _ _ _ => (pg_name (i := 1) sc_is_word.nd rfl (Or.inl rfl))) (fun _ _ _ _ _ => pts_nil) (fun _ _ _ _ _ => (pe_or (pe_cmpR op_in_sign (pv 1) (pe_glo g_LETTERS) rfl) (pe_one (pe_cmpR op_in_sign (pv 1) (pe_glo g_DIGITS) rfl))))) pa_nil)))))), fun fr Qv hret => ?_⟩)
  replace h : m_is_word p_word Q X := h
  unfold m_is_word at h
  refine kn_seq (kn_if (wt_not (wt_test (we_chainI (we_cI (we_cb (wa_cons (we_var rfl (wa_nil (cy_lenS (fun e1 => (⟨_, _, _, rfl, rfl, we_cI (⟨rfl, rfl⟩), ⟨_, rfl, ⟨fun hc => ?_, fun hc => ?_⟩⟩⟩))))))))))))
  · have h := h.1 hc
    refine kn_ret (we_cB ?_)
    exact hret _ h _
  · have h := h.2 hc
    refine kn_next ?_
    try dsimp only
    refine kn_seq (kn_if (wt_test (we_op (we_op (we_var rfl (we_cI ?_))))))
    obtain ⟨v2, ev2, h⟩ := h
    refine oy_ixS ev2 (we_cSy (asc_of (by decide)) (by decide) ?_)
    obtain ⟨g3, h⟩ := h
    refine oy_ninG g3 (⟨_, rfl, ⟨fun hc => ?_, fun hc => ?_⟩⟩)
    · have h := h.1 hc
      refine kn_ret (we_cB ?_)
      exact hret _ h _
    · have h := h.2 hc
      refine kn_next ?_
      try dsimp only
      refine kn_ret (we_cb (wa_cons (we_lcM (r := yS) (s := zB) (wi_str (we_var rfl (⟨_, rfl, fun e7 => ⟨_, _, _, _, rfl, rfl, e7, fun _ => tg_name, h, fun x4 c k5 h => ?_, fun ys6 h eys6 => ?_⟩⟩))))))
      · refine we_orC (we_op (we_var rfl (we_cSy (asc_of (by decide)) (by decide) ?_)))
        obtain ⟨g9, h⟩ := h
        refine oy_inG g9 ?_
        refine orKv h (fun h => ?_) (fun c10 h => ?_)
        · refine we_op (we_var rfl (we_cSy (asc_of (by decide)) (by decide) ?_))
          obtain ⟨g12, h⟩ := h
          refine oy_inG g12 ?_
          exact ⟨rfl, _, rfl, h⟩
        exact ⟨rfl, _, rfl, h⟩
      refine wa_nil (cy_all ?_)
      exact hret _ h _
abbrev s_check_word : Stmt := topS 9
theorem sc_check_word : FnScope ["word"] ["word"] (defScope s_check_word) := ⟨rfl, rfl, rfl, by decide +kernel, rfl, by decide +kernel, by decide +kernel⟩
def m_check_word (p_word : Str) : DM Str := fun Q X =>
  m_is_word p_word (fun v1 =>
  ifD (!v1) (
  X (.badWord p_word)) (
  Q p_word)) noX
theorem ok_check_word {k : Nat} {cs : EK → Addr} {f_BadWord : Addr} (B : Bl mg) (D_is_word : Def P w K mg base CX0 k "is_word" ["word"] (spA (preW (erW cs) (fun x : Str => [iz yS x]) zB (fun x => m_is_word x)))) (X_BadWord : ErrTxt P K mg false "BadWord" (cs .badWord) f_BadWord ["word"])
    (F : Src K mg "check_word" s_check_word ["word"]) : Def P w K mg base (L2.CX P w) (k + 1) "check_word" ["word"] (spA (preW (erW cs) (fun x : Str => [iz yS x]) yS (fun x => m_check_word x))) := by
  refine F.okWX sc_check_word (fun _ => rfl) (fun f cdv A outer s H E p_word Q X hr h => ⟨_, (pss_cons (ps_if (pt_not (pt_val (pe_def D_is_word hr pass0 (pa_cons (pv 0) pa_nil)))) (pss_one (ps_raiseE rfl X_BadWord hr (takes_of rfl rfl rfl rfl) (pa_cons (pv 0) pa_nil))) pss_nil)
 (pss_one (ps_ret (pv 0)))), fun fr Qv hret hrse => ?_⟩)
  replace h : m_check_word p_word Q X := h
  unfold m_check_word at h
  refine kn_seq (kn_if (wt_not (wt_b (we_callE (wa_cons (we_var rfl (wa_nil ?_)))))))
  refine sps_W0 p_word h (fun v1 h => ?_)
  refine ⟨_, rfl, ⟨fun hc => ?_, fun hc => ?_⟩⟩
  · have h := h.1 hc
    refine kn_raiseY (wa_cons (we_var rfl (wa_nil ?_)))
    exact ⟨rfl, (fun h => nomatch h), hrse _ h _ _⟩
  · have h := h.2 hc
    refine kn_next ?_
    try dsimp only
    refine kn_ret (we_var rfl ?_)
    exact hret _ h _
end
abbrev zTally (C_Tally : Addr) : Rep ((List (Str × Int))) := zIn C_Tally fun x => [("counts", iz (yDK zI) x)]
section
variable {P : Program} {w : World} {K : PySem.W.Frag} {mg : Str → Option Value} {base : Heap}
abbrev s_Tally___init__ : Stmt := inClass (topS 12) 0
theorem sc_Tally___init__ : FnScope ["self", "rows", "counts", "word", "number"] ["self", "rows"] (defScope s_Tally___init__) := ⟨rfl, rfl, rfl, by decide +kernel, rfl, by decide +kernel, by decide +kernel⟩
def m_Tally___init__ (p_rows : (List (Str × Int))) : DM ((List (Str × Int))) := fun Q X =>
  forD p_rows ([]) (fun x3 s2 nx bk =>
  m_check_word x3.1 (fun v5 =>
  ifD ((getR s2 x3.1).isSome) (
  X (.double x3.1)) (
  (s2).length < big ∧
  nx (putR s2 x3.1 x3.2))) X) (fun s2 =>
  compD ((s2).map (·.1)) [] (fun x7 k8 =>
  ∃ v12, getR s2 x7 = some v12 ∧
  ifD (!decide (v12 = (0 : Int))) (∃ v13, getR s2 x7 = some v13 ∧
  k8 (some (x7, v13))) (k8 none)) (fun ys9 =>
  Q (dictP ys9)))
theorem ok_Tally___init__ {k : Nat} {cs : EK → Addr} {f_DoubleName C_Tally : Addr} (B : Bl mg) (T_Tally : ClsA K mg C_Tally "Tally" ["counts"]) (D_check_word : Def P w K mg base (L2.CX P w) k "check_word" ["word"] (spA (preW (erW cs) (fun x : Str => [iz yS x]) yS (fun x => m_check_word x)))) (X_DoubleName : ErrTxt P K mg false "DoubleName" (cs .double) f_DoubleName ["name"])
    (F : SrcI K C_Tally "Tally.__init__" s_Tally___init__ ["self", "rows"]) : DefI P w K mg base (L2.CX P w) (k + 1) C_Tally ["self", "rows"] (spI C_Tally (preW (erW cs) (fun x : (List (Str × Int)) => [iz (yL (z2 yS zI)) x]) (zTally C_Tally) (fun x => m_Tally___init__ x))) := by
  refine F.okW sc_Tally___init__ (fun _ => rfl) (fun f cdv A outer s H E p_rows Q X hr h => ⟨_, (pss_cons (ps_asg pe_dnewK (pg_name (i := 2) sc_Tally___init__.nd rfl (Or.inr rfl)))
 (pss_cons (ps_for (passes_of rfl) rfl (kpi_list (K := K) (pv 1)) (kpg_tup (K := K) (n := 2) rfl (pgs_cons (pg_name (i := 3) sc_Tally___init__.nd rfl (Or.inl rfl)) (pgs_cons (pg_name (i := 4) sc_Tally___init__.nd rfl (Or.inl rfl)) pgs_nil))) (pss_cons (ps_expr (pe_def D_check_word hr (passes_call (takes_of rfl rfl rfl rfl) (fun _ _ _ _ h => h)) (pa_cons (pv 3) pa_nil)))
 (pss_cons (ps_if (pt_cmp (pc_din (hu_of hr) (pv 3) (pv 2))) (pss_one (ps_raiseE rfl X_DoubleName hr (takes_of rfl rfl rfl rfl) (pa_cons (pv 3) pa_nil))) pss_nil)
 (pss_one (ps_dput (hu_of hr) (pv 2) (pv 3) (pv 4) rfl)))))
 (pss_cons (ps_lk (kps_fld (K := K) (pv 0) (pe_dc (own := [("word", 3)]) (g := gName 3) (by rfl) sc_Tally___init__.nd (pi_keys (pv 2)) (blkOk_by (N := ["self", "rows", "counts", "word", "number"]) (sc := defScope s_Tally___init__) (by decide +kernel)) (fun _ _ _ _ _ => (pg_name (i := 3) sc_Tally___init__.nd rfl (Or.inl rfl))) (fun _ _ _ _ _ => pts_one (pt_cmpR op_ne (pe_dget (hu_of hr) (pv 2) (pv 3) (fun _ _ => rfl)) pe_int (nomark _))) (fun _ _ _ _ _ => (pv 3)) (fun _ _ _ _ _ => (pe_dget (hu_of hr) (pv 2) (pv 3) (fun _ _ => rfl))))))
 (pss_lkE pss_nil)))), fun fr x0 dx0 Qn rt hinit hrse => ?_⟩)
  replace h : m_Tally___init__ p_rows Q X := h
  unfold m_Tally___init__ at h
  refine kn_seq (kn_asg (i := 2) (wk_dnew zI (fun a1 => ?_)))
  refine kn_nrm (Γ' := [some (zAt x0), some (iz (yL (z2 yS zI)) p_rows), some (zAt a1), none, none]) rfl ?_
  try dsimp only
  refine kn_seq (kn_forW (r := (z2 yS zI)) (S := (List (Str × Int))) (fun s2 => [some (zAt x0), some (iz (yL (z2 yS zI)) p_rows), some (zAt a1), none, none]) (fun s2 => [cYK a1 zI s2, cI x0 C_Tally dx0 []]) ([]) (wi_yL (we_var rfl (⟨_, _, _, rfl, fun e4 => ⟨_, _, _, _, _, rfl, rfl, (by and_intros), fun _ _ => tg2 (by decide), h, fun fr' le x3 s2 nx M hnx hbk h => ?_, fun s2 h => ?_⟩⟩))))
  · have hinit := hinit.fine le
    have hrse := hrse.fine le
    refine kn_seq (kn_drop (we_callE (wa_cons (we_var rfl (wa_nil ?_)))))
    refine sps_WE hrse x3.1 h (fun v5 h => ?_)
    try dsimp only
    refine kn_seq (kn_if (wt_test (wk_din (we_var rfl (we_var rfl (⟨_, _, _, _, (dk_C (j := 0) rfl), rfl, ⟨_, rfl, ⟨fun hc => ?_, fun hc => ?_⟩⟩⟩))))))
    · have h := h.1 hc
      refine kn_raiseY (wa_cons (we_var rfl (wa_nil ?_)))
      exact ⟨rfl, (fun h => nomatch h), hrse _ h _ _⟩
    · have h := h.2 hc
      refine kn_next ?_
      try dsimp only
      refine kk_dput (we_var rfl (we_var rfl (we_var rfl ?_)))
      obtain ⟨g6, h⟩ := h
      refine ⟨_, _, _, _, _, _, 0, rfl, rfl, rfl, rfl, g6, ?_⟩
      exact hnx (putR s2 x3.1 x3.2) _ _ h (by and_intros) rfl
  try dsimp only
  refine kn_seq ?_
  refine kn_lkK (i := 2) (j := 0) rfl rfl ?_
  try dsimp only [List.set, List.eraseIdx]
  refine kn_putN T_Tally.toClsF (by decide) (we_dcKW (r := yS) (s := zI) (wi_keysK (we_var rfl (⟨_, _, _, rfl, fun e11 => ⟨_, _, _, _, rfl, rfl, e11, fun x7 => tg_name, h, fun x7 c k8 h => ?_, fun ys9 h eys9 a10 => ?_⟩⟩))))
  · refine wt_test (we_op (wk_dget (we_var rfl (we_var rfl ?_))))
    obtain ⟨v12, ev12, h⟩ := h
    refine ⟨_, _, _, _, _, dk_D, rfl, ev12, we_cI (ops_neI (⟨_, rfl, ⟨fun hc => ?_, fun hc => ⟨rfl, h.2 hc⟩⟩⟩))⟩
    have h := h.1 hc
    refine we_var rfl (⟨_, rfl, wk_dget (we_var rfl (we_var rfl ?_))⟩)
    obtain ⟨v13, ev13, h⟩ := h
    refine ⟨_, _, _, _, _, dk_D, rfl, ev13, ?_⟩
    exact ⟨rfl, _, rfl, h⟩
  refine we_var rfl (⟨_, _, _, 1, rfl, rfl, rfl, Nat.le_of_ble_eq_true rfl, ?_⟩)
  refine kn_nrm (Γ' := [some (zAt x0), some (iz (yL (z2 yS zI)) p_rows), some (iz (yDK zI) s2), none, none]) rfl ?_
  try dsimp only
  refine kn_lkFK (i := 1) (j := 0) (k := 0) rfl rfl (by decide) rfl ?_
  try dsimp only [List.set, List.eraseIdx]
  refine kn_next ?_
  exact hinit _ h _ _ 0 _ rfl
abbrev s_Tally___getitem__ : Stmt := inClass (topS 12) 3
theorem sc_Tally___getitem__ : FnScope ["self", "word"] ["self", "word"] (defScope s_Tally___getitem__) := ⟨rfl, rfl, rfl, by decide +kernel, rfl, by decide +kernel, by decide +kernel⟩
def m_Tally___getitem__ (p_self : ((List (Str × Int)))) (p_word : Str) : DM Int := fun Q X =>
  Q ((getR p_self p_word).getD (0 : Int))
theorem ok_Tally___getitem__ {k : Nat} {cs : EK → Addr} {C_Tally : Addr} (B : Bl mg) (T_Tally : ClsA K mg C_Tally "Tally" ["counts"])
    (F : SrcM K C_Tally "__getitem__" "Tally.__getitem__" s_Tally___getitem__ ["self", "word"]) : DefM P w K mg base CX0 (k + 1) C_Tally "__getitem__" ["self", "word"] (spA (preW (erW cs) (fun x : ((List (Str × Int))) × Str => [iz (zTally C_Tally) x.1, iz yS x.2]) zI (fun x => m_Tally___getitem__ x.1 x.2))) := by
  refine F.okW sc_Tally___getitem__ (fun _ => rfl) (fun f cdv A outer s H E x Q X hr h => ⟨_, (pss_one (ps_ret (pe_dget2 (hu_of hr) (kpe_fld (K := K) (pv 0)) (pv 1) pe_int ⟨rfl, rfl, rfl, rfl⟩))), fun fr Qv hret => ?_⟩)
  obtain ⟨p_self, p_word⟩ := x
  replace h : m_Tally___getitem__ p_self p_word Q X := h
  unfold m_Tally___getitem__ at h
  refine kn_ret (wk_dgetD (we_fld (we_var rfl (⟨_, fld_in T_Tally.toClsF (by decide) rfl, ⟨⟨_, _, _, dk_D⟩, we_var rfl (we_cI (⟨_, _, _, _, _, dk_D, rfl, rfl, ?_⟩))⟩⟩))))
  exact hret _ h _
abbrev s_Tally___contains__ : Stmt := inClass (topS 12) 5
theorem sc_Tally___contains__ : FnScope ["self", "word"] ["self", "word"] (defScope s_Tally___contains__) := ⟨rfl, rfl, rfl, by decide +kernel, rfl, by decide +kernel, by decide +kernel⟩
def m_Tally___contains__ (p_self : ((List (Str × Int)))) (p_word : Str) : DM Bool := fun Q X =>
  Q ((getR p_self p_word).isSome)
theorem ok_Tally___contains__ {k : Nat} {cs : EK → Addr} {C_Tally : Addr} (B : Bl mg) (T_Tally : ClsA K mg C_Tally "Tally" ["counts"])
    (F : SrcM K C_Tally "__contains__" "Tally.__contains__" s_Tally___contains__ ["self", "word"]) : DefM P w K mg base CX0 (k + 1) C_Tally "__contains__" ["self", "word"] (spA (preW (erW cs) (fun x : ((List (Str × Int))) × Str => [iz (zTally C_Tally) x.1, iz yS x.2]) zB (fun x => m_Tally___contains__ x.1 x.2))) := by
  refine F.okW sc_Tally___contains__ (fun _ => rfl) (fun f cdv A outer s H E x Q X hr h => ⟨_, (pss_one (ps_ret (pe_cmp (pc_din (hu_of hr) (pv 1) (kpe_fld (K := K) (pv 0))) rfl))), fun fr Qv hret => ?_⟩)
  obtain ⟨p_self, p_word⟩ := x
  replace h : m_Tally___contains__ p_self p_word Q X := h
  unfold m_Tally___contains__ at h
  refine kn_ret (wk_din (we_var rfl (we_fld (we_var rfl (⟨_, fld_in T_Tally.toClsF (by decide) rfl, ⟨_, _, _, _, dk_D, rfl, ?_⟩⟩)))))
  exact hret _ h _
abbrev s_Tally___len__ : Stmt := inClass (topS 12) 6
theorem sc_Tally___len__ : FnScope ["self"] ["self"] (defScope s_Tally___len__) := ⟨rfl, rfl, rfl, by decide +kernel, rfl, by decide +kernel, by decide +kernel⟩
def m_Tally___len__ (p_self : ((List (Str × Int)))) : DM Int := fun Q X =>
  Q ((p_self).length : Int)
theorem ok_Tally___len__ {k : Nat} {cs : EK → Addr} {C_Tally : Addr} (B : Bl mg) (T_Tally : ClsA K mg C_Tally "Tally" ["counts"])
    (F : SrcM K C_Tally "__len__" "Tally.__len__" s_Tally___len__ ["self"]) : DefM P w K mg base CX0 (k + 1) C_Tally "__len__" ["self"] (spA (preW (erW cs) (fun x : ((List (Str × Int))) => [iz (zTally C_Tally) x]) zI (fun x => m_Tally___len__ x))) := by
  refine F.okW sc_Tally___len__ (fun _ => rfl) (fun f cdv A outer s H E p_self Q X hr h => ⟨_, (pss_one (ps_ret (pe_callB call_len_dd (by rfl) B.len PySem.boot_len (pa_cons (kpe_fld (K := K) (pv 0)) pa_nil)))), fun fr Qv hret => ?_⟩)
  replace h : m_Tally___len__ p_self Q X := h
  unfold m_Tally___len__ at h
  refine kn_ret (we_cb (wa_cons (we_fld (we_var rfl (⟨_, fld_in T_Tally.toClsF (by decide) rfl, wa_nil (cy_lenK dk_D (fun e1 => ?_))⟩)))))
  exact hret _ h _
abbrev s_Tally___bool__ : Stmt := inClass (topS 12) 7
theorem sc_Tally___bool__ : FnScope ["self"] ["self"] (defScope s_Tally___bool__) := ⟨rfl, rfl, rfl, by decide +kernel, rfl, by decide +kernel, by decide +kernel⟩
def m_Tally___bool__ (p_self : ((List (Str × Int)))) : DM Bool := fun Q X =>
  Q (decide (((p_self).length : Int) > (0 : Int)))
theorem ok_Tally___bool__ {k : Nat} {cs : EK → Addr} {C_Tally : Addr} (B : Bl mg) (T_Tally : ClsA K mg C_Tally "Tally" ["counts"])
    (F : SrcM K C_Tally "__bool__" "Tally.__bool__" s_Tally___bool__ ["self"]) : DefM P w K mg base CX0 (k + 1) C_Tally "__bool__" ["self"] (spA (preW (erW cs) (fun x : ((List (Str × Int))) => [iz (zTally C_Tally) x]) zB (fun x => m_Tally___bool__ x))) := by
  refine F.okW sc_Tally___bool__ (fun _ => rfl) (fun f cdv A outer s H E p_self Q X hr h => ⟨_, (pss_one (ps_ret (pe_cmpR op_gt (pe_callB call_len_dd (by rfl) B.len PySem.boot_len (pa_cons (kpe_fld (K := K) (pv 0)) pa_nil)) pe_int (nomark _)))), fun fr Qv hret => ?_⟩)
  replace h : m_Tally___bool__ p_self Q X := h
  unfold m_Tally___bool__ at h
  refine kn_ret (we_op (we_cb (wa_cons (we_fld (we_var rfl (⟨_, fld_in T_Tally.toClsF (by decide) rfl, wa_nil (cy_lenK dk_D (fun e1 => (we_cI (ops_B0 ?_))))⟩))))))
  exact hret _ h _
abbrev s_Tally___abs__ : Stmt := inClass (topS 12) 8
theorem sc_Tally___abs__ : FnScope ["self", "number"] ["self"] (defScope s_Tally___abs__) := ⟨rfl, rfl, rfl, by decide +kernel, rfl, by decide +kernel, by decide +kernel⟩
def m_Tally___abs__ (p_self : ((List (Str × Int)))) : DM Int := fun Q X =>
  Q ((((((p_self).map (·.2))).map fun x1 => (if x1 < 0 then -x1 else x1))).sum)
theorem ok_Tally___abs__ {k : Nat} {cs : EK → Addr} {C_Tally : Addr} (B : Bl mg) (T_Tally : ClsA K mg C_Tally "Tally" ["counts"])
    (F : SrcM K C_Tally "__abs__" "Tally.__abs__" s_Tally___abs__ ["self"]) : DefM P w K mg base CX0 (k + 1) C_Tally "__abs__" ["self"] (spA (preW (erW cs) (fun x : ((List (Str × Int))) => [iz (zTally C_Tally) x]) zI (fun x => m_Tally___abs__ x))) := by
  refine F.okW sc_Tally___abs__ (fun _ => rfl) (fun f cdv A outer s H E p_self Q X hr h => ⟨_, (pss_one (ps_ret (pe_callB (kcr_sum (K := K) rfl) (by rfl) B.sum (by decide +kernel) (pa_cons (pe_lc (own := [("number", 1)]) (g := gName 1) (by rfl) sc_Tally___abs__.nd (pi_values (kpe_fld (K := K) (pv 0))) (blkOk_by (N := ["self", "number"]) (sc := defScope s_Tally___abs__) (by decide +kernel)) (fun _ _ _ _ _ => (pg_name (i := 1) sc_Tally___abs__.nd rfl (Or.inl rfl))) (fun _ _ _ _ _ => pts_nil) (fun _ _ _ _ _ => (pe_callB call_abs (by rfl) B.abs (by decide +kernel) (pa_cons (pv 1) pa_nil)))) pa_nil)))), fun fr Qv hret => ?_⟩)
  replace h : m_Tally___abs__ p_self Q X := h
  unfold m_Tally___abs__ at h
  refine kn_ret (we_cb (wa_cons (we_lcM0 (r := zI) (s := zI) (wi_valsK (we_fld (we_var rfl (⟨_, fld_in T_Tally.toClsF (by decide) rfl, ⟨_, _, _, rfl, fun e2 => ⟨_, fun x1 => (if x1 < 0 then -x1 else x1), _, rfl, rfl, e2, fun x1 => tg_name, fun x1 c => we_cb (wa_cons (we_var rfl (wa_nil (cb_abs (⟨rfl, rfl⟩))))), wa_nil (cy_sum ?_)⟩⟩⟩)))))))
  exact hret _ h _
abbrev s_Tally_rows : Stmt := inClass (topS 12) 1
theorem sc_Tally_rows : FnScope ["self", "word"] ["self"] (defScope s_Tally_rows) := ⟨rfl, rfl, rfl, by decide +kernel, rfl, by decide +kernel, by decide +kernel⟩
def m_Tally_rows (p_self : ((List (Str × Int)))) : DM (List (Str × Int)) := fun Q X =>
  sortD ((((p_self).map (·.1))).map fun x4 => x4) (fun ys6 =>
  mapD ys6 [] (fun x1 k2 =>
  ∃ v9, getR p_self x1 = some v9 ∧
  k2 (x1, v9)) (fun ys3 =>
  Q ys3))
theorem ok_Tally_rows {k : Nat} {cs : EK → Addr} {C_Tally : Addr} (B : Bl mg) (T_Tally : ClsA K mg C_Tally "Tally" ["counts"])
    (F : SrcM K C_Tally "rows" "Tally.rows" s_Tally_rows ["self"]) : DefM P w K mg base CX0 (k + 1) C_Tally "rows" ["self"] (spA (preW (erW cs) (fun x : ((List (Str × Int))) => [iz (zTally C_Tally) x]) (yL (z2 yS zI)) (fun x => m_Tally_rows x))) := by
  refine F.okW sc_Tally_rows (fun _ => rfl) (fun f cdv A outer s H E p_self Q X hr h => ⟨_, (pss_one (ps_ret (pe_lc (own := [("word", 1)]) (g := gName 1) (by rfl) sc_Tally_rows.nd (kpi_list (K := K) (pe_callB (kcr_sortedS (K := K)) (by rfl) B.sorted (by decide +kernel) (pa_cons (pe_lc (own := [("word", 1)]) (g := gName 1) (by rfl) sc_Tally_rows.nd (pi_keys (kpe_fld (K := K) (pv 0))) (blkOk_by (N := ["self", "word"]) (sc := defScope s_Tally_rows) (by decide +kernel)) (fun _ _ _ _ _ => (pg_name (i := 1) sc_Tally_rows.nd rfl (Or.inl rfl))) (fun _ _ _ _ _ => pts_nil) (fun _ _ _ _ _ => (pe_callTy SkE.call_str_str (by rfl) B.str' (by decide +kernel) (pa_cons (pv 1) pa_nil)))) pa_nil))) (blkOk_by (N := ["self", "word"]) (sc := defScope s_Tally_rows) (by decide +kernel)) (fun _ _ _ _ _ => (pg_name (i := 1) sc_Tally_rows.nd rfl (Or.inl rfl))) (fun _ _ _ _ _ => pts_nil) (fun _ _ _ _ _ => (pe_tup (pa_cons (pv 1) (pa_cons (pe_dget (hu_of hr) (kpe_fld (K := K) (pv 0)) (pv 1) (fun _ _ => rfl)) pa_nil))))))), fun fr Qv hret => ?_⟩)
  replace h : m_Tally_rows p_self Q X := h
  unfold m_Tally_rows at h
  refine kn_ret (we_lcM (r := yS) (s := (z2 yS zI)) (wi_yL (we_cb (wa_cons (we_lcM0 (r := yS) (s := yS) (wi_keysK (we_fld (we_var rfl (⟨_, fld_in T_Tally.toClsF (by decide) rfl, ⟨_, _, _, rfl, fun e5 => ⟨_, fun x4 => x4, _, rfl, rfl, e5, fun x4 => tg_name, fun x4 c => we_cb (wa_cons (we_var rfl (wa_nil (cy_strS (⟨rfl, rfl⟩))))), wa_nil ?_⟩⟩⟩)))))))))
  refine cy_sortedS h (fun ys6 h => ?_)
  refine ⟨_, _, _, rfl, fun e7 => ⟨_, _, _, _, rfl, rfl, e7, fun _ => tg_name, h, fun x1 c k2 h => ?_, fun ys3 h eys3 => ?_⟩⟩
  · refine we_tup (wa_cons (we_var rfl (wa_cons (wk_dget (we_fld (we_var rfl (⟨_, fld_in T_Tally.toClsF (by decide) rfl, we_var rfl ?_⟩)))))))
    obtain ⟨v9, ev9, h⟩ := h
    refine ⟨_, _, _, _, _, dk_D, rfl, ev9, wa_nil (⟨Nat.le_of_ble_eq_true rfl, iz (z2 yS zI) (x1, v9), tr2, ?_⟩)⟩
    exact ⟨rfl, _, rfl, h⟩
  exact hret _ h _
def m_Tally_rowsN (p_self : ((List (Str × Int)))) : DM (List (Str × Int)) := fun Q X =>
  sortD ((((p_self).map (·.1))).map fun x4 => x4) (fun ys6 =>
  mapD ys6 [] (fun x1 k2 =>
  ∃ v9, getR p_self x1 = some v9 ∧
  k2 (x1, v9)) (fun ys3 =>
  Q ys3))
theorem ok_Tally_rowsN {k : Nat} {cs : EK → Addr} {C_Tally : Addr} (B : Bl mg) (T_Tally : ClsA K mg C_Tally "Tally" ["counts"])
    (F : SrcM K C_Tally "rows" "Tally.rows" s_Tally_rows ["self"]) : DefM P w K mg base CX0 (k + 1) C_Tally "rows" ["self"] (spN (preNW (erW cs) (fun x : ((List (Str × Int))) => [iz (zTally C_Tally) x]) (fun (_ : (List (Str × Int))) as => zAt (ad as 0)) (fun (y : (List (Str × Int))) as => [cY (ad as 0) (z2 yS zI) y]) (fun x => m_Tally_rowsN x))) := by
  refine F.okNW sc_Tally_rows (fun _ => rfl) (fun f cdv A outer s H E p_self Q X hr h => ⟨_, (pss_one (ps_ret (pe_lc (own := [("word", 1)]) (g := gName 1) (by rfl) sc_Tally_rows.nd (kpi_list (K := K) (pe_callB (kcr_sortedS (K := K)) (by rfl) B.sorted (by decide +kernel) (pa_cons (pe_lc (own := [("word", 1)]) (g := gName 1) (by rfl) sc_Tally_rows.nd (pi_keys (kpe_fld (K := K) (pv 0))) (blkOk_by (N := ["self", "word"]) (sc := defScope s_Tally_rows) (by decide +kernel)) (fun _ _ _ _ _ => (pg_name (i := 1) sc_Tally_rows.nd rfl (Or.inl rfl))) (fun _ _ _ _ _ => pts_nil) (fun _ _ _ _ _ => (pe_callTy SkE.call_str_str (by rfl) B.str' (by decide +kernel) (pa_cons (pv 1) pa_nil)))) pa_nil))) (blkOk_by (N := ["self", "word"]) (sc := defScope s_Tally_rows) (by decide +kernel)) (fun _ _ _ _ _ => (pg_name (i := 1) sc_Tally_rows.nd rfl (Or.inl rfl))) (fun _ _ _ _ _ => pts_nil) (fun _ _ _ _ _ => (pe_tup (pa_cons (pv 1) (pa_cons (pe_dget (hu_of hr) (kpe_fld (K := K) (pv 0)) (pv 1) (fun _ _ => rfl)) pa_nil))))))), fun fr Qv hret => ?_⟩) (fun y as c hc => by rw [List.mem_singleton.mp hc]; rfl)
  replace h : m_Tally_rowsN p_self Q X := h
  unfold m_Tally_rowsN at h
  refine kn_ret (we_lcMN (r := yS) (s := (z2 yS zI)) (wi_yL (we_cb (wa_cons (we_lcM0 (r := yS) (s := yS) (wi_keysK (we_fld (we_var rfl (⟨_, fld_in T_Tally.toClsF (by decide) rfl, ⟨_, _, _, rfl, fun e5 => ⟨_, fun x4 => x4, _, rfl, rfl, e5, fun x4 => tg_name, fun x4 c => we_cb (wa_cons (we_var rfl (wa_nil (cy_strS (⟨rfl, rfl⟩))))), wa_nil ?_⟩⟩⟩)))))))))
  refine cy_sortedS h (fun ys6 h => ?_)
  refine ⟨_, _, _, rfl, fun e7 => ⟨_, _, _, _, rfl, rfl, e7, fun _ => tg_name, h, fun x1 c k2 h => ?_, fun ys3 h eys3 a8 => ?_⟩⟩
  · refine we_tup (wa_cons (we_var rfl (wa_cons (wk_dget (we_fld (we_var rfl (⟨_, fld_in T_Tally.toClsF (by decide) rfl, we_var rfl ?_⟩)))))))
    obtain ⟨v9, ev9, h⟩ := h
    refine ⟨_, _, _, _, _, dk_D, rfl, ev9, wa_nil (⟨Nat.le_of_ble_eq_true rfl, iz (z2 yS zI) (x1, v9), tr2, ?_⟩)⟩
    exact ⟨rfl, _, rfl, h⟩
  exact hret ys3 [a8] h _ _ (perm_at (j := 0) rfl)
abbrev s_Tally_dot : Stmt := inClass (topS 12) 2
theorem sc_Tally_dot : FnScope ["self", "other", "word"] ["self", "other"] (defScope s_Tally_dot) := ⟨rfl, rfl, rfl, by decide +kernel, rfl, by decide +kernel, by decide +kernel⟩
def m_Tally_dot (p_self : ((List (Str × Int)))) (p_other : ((List (Str × Int)))) : DM Int := fun Q X =>
  mapD ((p_self).map (·.1)) [] (fun x1 k2 =>
  ∃ v6, getR p_self x1 = some v6 ∧
  m_Tally___getitem__ p_other x1 (fun v7 =>
  CMul v6 v7 ∧
  k2 (v6 * v7)) noX) (fun ys3 =>
  Q ((ys3).sum))
theorem ok_Tally_dot {k : Nat} {cs : EK → Addr} {C_Tally : Addr} (B : Bl mg) (T_Tally : ClsA K mg C_Tally "Tally" ["counts"]) (GF_Tally : GetFn K C_Tally) (DMk_Tally___getitem__ : DefM P w K mg base CX0 k C_Tally "__getitem__" ["self", "word"] (spA (preW (erW cs) (fun x : ((List (Str × Int))) × Str => [iz (zTally C_Tally) x.1, iz yS x.2]) zI (fun x => m_Tally___getitem__ x.1 x.2))))
    (F : SrcM K C_Tally "dot" "Tally.dot" s_Tally_dot ["self", "other"]) : DefM P w K mg base CX0 (k + 2) C_Tally "dot" ["self", "other"] (spA (preW (erW cs) (fun x : ((List (Str × Int))) × ((List (Str × Int))) => [iz (zTally C_Tally) x.1, iz (zTally C_Tally) x.2]) zI (fun x => m_Tally_dot x.1 x.2))) := by
  refine F.okW sc_Tally_dot (fun _ => rfl) (fun f cdv A outer s H E x Q X hr h => ⟨_, (pss_one (ps_ret (pe_callB (kcr_sum (K := K) rfl) (by rfl) B.sum (by decide +kernel) (pa_cons (pe_lc (own := [("word", 2)]) (g := gName 2) (by rfl) sc_Tally_dot.nd (pi_keys (kpe_fld (K := K) (pv 0))) (blkOk_by (N := ["self", "other", "word"]) (sc := defScope s_Tally_dot) (by decide +kernel)) (fun _ _ _ _ _ => (pg_name (i := 2) sc_Tally_dot.nd rfl (Or.inl rfl))) (fun _ _ _ _ _ => pts_nil) (fun _ _ _ _ _ => (pe_op op_mul (pe_dget (hu_of hr) (kpe_fld (K := K) (pv 0)) (pv 2) (fun _ _ => rfl)) (pe_ixO DMk_Tally___getitem__ GF_Tally hr passAt0 (pv 1) (pv 2) (fun _ _ => rfl))))) pa_nil)))), fun fr Qv hret => ?_⟩)
  obtain ⟨p_self, p_other⟩ := x
  replace h : m_Tally_dot p_self p_other Q X := h
  unfold m_Tally_dot at h
  refine kn_ret (we_cb (wa_cons (we_lcM (r := yS) (s := zI) (wi_keysK (we_fld (we_var rfl (⟨_, fld_in T_Tally.toClsF (by decide) rfl, ⟨_, _, _, rfl, fun e4 => ⟨_, _, _, _, rfl, rfl, e4, fun _ => tg_name, h, fun x1 c k2 h => ?_, fun ys3 h eys3 => ?_⟩⟩⟩)))))))
  · refine we_op (wk_dget (we_fld (we_var rfl (⟨_, fld_in T_Tally.toClsF (by decide) rfl, we_var rfl ?_⟩))))
    obtain ⟨v6, ev6, h⟩ := h
    refine ⟨_, _, _, _, _, dk_D, rfl, ev6, we_ixO (we_var rfl (we_var rfl (⟨insC_in, ?_⟩)))⟩
    refine sps_W0 (p_other, x1) h (fun v7 h => ?_)
    obtain ⟨g8, h⟩ := h
    refine ops_IC g8 ?_
    exact ⟨rfl, _, rfl, h⟩
  refine wa_nil (cy_sum ?_)
  exact hret _ h _
abbrev s_Tally___neg__ : Stmt := inClass (topS 12) 9
theorem sc_Tally___neg__ : FnScope ["self", "word"] ["self"] (defScope s_Tally___neg__) := ⟨rfl, rfl, rfl, by decide +kernel, rfl, by decide +kernel, by decide +kernel⟩
def m_Tally___neg__ (p_self : ((List (Str × Int)))) : DM ((List (Str × Int))) := fun Q X =>
  mapD ((p_self).map (·.1)) [] (fun x1 k2 =>
  ∃ v6, getR p_self x1 = some v6 ∧
  k2 (x1, (-v6))) (fun ys3 =>
  m_Tally___init__ ys3 (fun v7 =>
  Q v7) X)
theorem ok_Tally___neg__ {k : Nat} {cs : EK → Addr} {C_Tally : Addr} (B : Bl mg) (T_Tally : ClsA K mg C_Tally "Tally" ["counts"]) (m_Tally : mg "Tally" = some (.ref C_Tally)) (DI_Tally : DefI P w K mg base (L2.CX P w) k C_Tally ["self", "rows"] (spI C_Tally (preW (erW cs) (fun x : (List (Str × Int)) => [iz (yL (z2 yS zI)) x]) (zTally C_Tally) (fun x => m_Tally___init__ x))))
    (F : SrcM K C_Tally "__neg__" "Tally.__neg__" s_Tally___neg__ ["self"]) : DefM P w K mg base (L2.CX P w) (k + 2) C_Tally "__neg__" ["self"] (spA (preW (erW cs) (fun x : ((List (Str × Int))) => [iz (zTally C_Tally) x]) (zTally C_Tally) (fun x => m_Tally___neg__ x))) := by
  refine F.okWX sc_Tally___neg__ (fun _ => rfl) (fun f cdv A outer s H E p_self Q X hr h => ⟨_, (pss_one (ps_ret (pe_mkD DI_Tally m_Tally hr (fun σ => Passes.at (passes_call (takes_of rfl rfl rfl rfl) (fun _ _ _ _ h => h)) σ) (pa_cons (pe_lc (own := [("word", 1)]) (g := gName 1) (by rfl) sc_Tally___neg__.nd (pi_keys (kpe_fld (K := K) (pv 0))) (blkOk_by (N := ["self", "word"]) (sc := defScope s_Tally___neg__) (by decide +kernel)) (fun _ _ _ _ _ => (pg_name (i := 1) sc_Tally___neg__.nd rfl (Or.inl rfl))) (fun _ _ _ _ _ => pts_nil) (fun _ _ _ _ _ => (pe_tup (pa_cons (pv 1) (pa_cons (pe_un un_neg (pe_dget (hu_of hr) (kpe_fld (K := K) (pv 0)) (pv 1) (fun _ _ => rfl))) pa_nil))))) pa_nil)))), fun fr Qv hret hrse => ?_⟩)
  replace h : m_Tally___neg__ p_self Q X := h
  unfold m_Tally___neg__ at h
  refine kn_ret (we_mkP (wa_cons (we_lcM (r := yS) (s := (z2 yS zI)) (wi_keysK (we_fld (we_var rfl (⟨_, fld_in T_Tally.toClsF (by decide) rfl, ⟨_, _, _, rfl, fun e4 => ⟨_, _, _, _, rfl, rfl, e4, fun _ => tg_name, h, fun x1 c k2 h => ?_, fun ys3 h eys3 => ?_⟩⟩⟩)))))))
  · refine we_tup (wa_cons (we_var rfl (wa_cons (we_un (wk_dget (we_fld (we_var rfl (⟨_, fld_in T_Tally.toClsF (by decide) rfl, we_var rfl ?_⟩))))))))
    obtain ⟨v6, ev6, h⟩ := h
    refine ⟨_, _, _, _, _, dk_D, rfl, ev6, uns_I (wa_nil (⟨Nat.le_of_ble_eq_true rfl, iz (z2 yS zI) (x1, (-v6)), tr2, ?_⟩))⟩
    exact ⟨rfl, _, rfl, h⟩
  refine wa_nil ?_
  refine mkWE hrse ys3 h (fun v7 h => ?_)
  exact hret _ h _
end
section
variable {P : Program} {w : World} {K : PySem.W.Frag} {mg : Str → Option Value} {base : Heap}
abbrev s__law_number : Stmt := topS 18
theorem sc__law_number : FnScope ["_law_box_here", "_law_kind"] ["_law_box_here"] (defScope s__law_number) := ⟨rfl, rfl, rfl, by decide +kernel, rfl, by decide +kernel, by decide +kernel⟩
def m__law_number  : DM Int := fun Q X =>
  m_draw (4 : Int) (fun v1 =>
  ifD (decide (v1 = (0 : Int))) (
  Q (0 : Int)) (
  ifD (decide (v1 < (3 : Int))) (
  m_draw (7 : Int) (fun v2 =>
  Q (v2 - (3 : Int))) noX) (
  CPow (10 : Int) (18 : Int) ∧
  m_draw ((10 : Int) ^ ((18 : Int)).toNat) (fun v4 =>
  m_draw (2 : Int) (fun v5 =>
  CMul (2 : Int) v5 ∧
  CMul (v4 + (1 : Int)) ((1 : Int) - ((2 : Int) * v5)) ∧
  Q ((v4 + (1 : Int)) * ((1 : Int) - ((2 : Int) * v5)))) noX) noX))) noX
theorem ok__law_number {k : Nat} {cs : EK → Addr} (B : Bl mg) (D__law_draw : Def P w K mg base CX0 k "_law_draw" ["_law_box_here", "_law_limit"] (spC (preKN 1 (preBW (fun x : Int => [iz zI x]) zI m_draw))))
    (F : Src K mg "_law_number" s__law_number ["_law_box_here"]) : Def P w K mg base CX0 (k + 1) "_law_number" ["_law_box_here"] (spC (preKN 3 (preBW (fun x : Unit => []) zI (fun x => m__law_number)))) := by
  refine F.okKN sc__law_number (fun _ => rfl) (fun f cdv A outer s H E b l n x Q hN hr h => ⟨_, (pss_cons (ps_asg (pe_def D__law_draw hr pass0 (pa_cons (pv 0) (pa_cons pe_int pa_nil))) (pg_name (i := 1) sc__law_number.nd rfl (Or.inl rfl)))
 (pss_cons (ps_if (pt_cmpR op_eq (pv 1) pe_int (nomark _)) (pss_one (ps_ret pe_int)) pss_nil)
 (pss_cons (ps_if (pt_cmpR op_lt (pv 1) pe_int (nomark _)) (pss_one (ps_ret (pe_op op_sub (pe_def D__law_draw hr pass0 (pa_cons (pv 0) (pa_cons pe_int pa_nil))) pe_int))) pss_nil)
 (pss_one (ps_ret (pe_op op_mul (pe_op op_add (pe_def D__law_draw hr pass0 (pa_cons (pv 0) (pa_cons (pe_op op_pow pe_int pe_int) pa_nil))) pe_int) (pe_op op_sub pe_int (pe_op op_mul pe_int (pe_def D__law_draw hr pass0 (pa_cons (pv 0) (pa_cons pe_int pa_nil))))))))))), fun fr Qv hret => ?_⟩)
  replace h : m__law_number Q noX := h
  unfold m__law_number at h
  refine kn_seq (kn_asg (i := 1) (we_callE (wa_cons (we_var rfl (wa_cons (we_cI (wa_nil ?_)))))))
  refine sps_KN (j := 0) rfl (by have hb : big = 100000 := rfl; omega) (4 : Int) h (fun v1 h => ?_)
  try dsimp only [List.set]
  try dsimp only
  refine kn_seq (kn_if (wt_test (we_op (we_var rfl (we_cI (ops_eqI (⟨_, rfl, ⟨fun hc => ?_, fun hc => ?_⟩⟩)))))))
  · have h := h.1 hc
    refine kn_ret (we_cI ?_)
    exact hret _ h _ _ (by have hb : big = 100000 := rfl; omega) (List.mem_of_getElem? (i := 0) rfl)
  · have h := h.2 hc
    refine kn_next ?_
    try dsimp only
    refine kn_seq (kn_if (wt_test (we_op (we_var rfl (we_cI (ops_B0 (⟨_, rfl, ⟨fun hc => ?_, fun hc => ?_⟩⟩)))))))
    · have h := h.1 hc
      refine kn_ret (we_op (we_callE (wa_cons (we_var rfl (wa_cons (we_cI (wa_nil ?_)))))))
      refine sps_KN (j := 0) rfl (by have hb : big = 100000 := rfl; omega) (7 : Int) h (fun v2 h => ?_)
      try dsimp only [List.set]
      refine we_cI (ops_I0 ?_)
      exact hret _ h _ _ (by have hb : big = 100000 := rfl; omega) (List.mem_of_getElem? (i := 0) rfl)
    · have h := h.2 hc
      refine kn_next ?_
      try dsimp only
      refine kn_ret (we_op (we_op (we_callE (wa_cons (we_var rfl (wa_cons (we_op (we_cI (we_cI ?_)))))))))
      obtain ⟨g3, h⟩ := h
      refine ops_IC g3 (wa_nil ?_)
      refine sps_KN (j := 0) rfl (by have hb : big = 100000 := rfl; omega) ((10 : Int) ^ ((18 : Int)).toNat) h (fun v4 h => ?_)
      try dsimp only [List.set]
      refine we_cI (ops_I0 (we_op (we_cI (we_op (we_cI (we_callE (wa_cons (we_var rfl (wa_cons (we_cI (wa_nil ?_)))))))))))
      refine sps_KN (j := 0) rfl (by have hb : big = 100000 := rfl; omega) (2 : Int) h (fun v5 h => ?_)
      try dsimp only [List.set]
      obtain ⟨g6, h⟩ := h
      refine ops_IC g6 (ops_I0 ?_)
      obtain ⟨g7, h⟩ := h
      refine ops_IC g7 ?_
      exact hret _ h _ _ (by have hb : big = 100000 := rfl; omega) (List.mem_of_getElem? (i := 0) rfl)
abbrev s__law_rows : Stmt := topS 19
theorem sc__law_rows : FnScope ["_law_box_here", "_law_known", "_law_rows_here", "_law_words", "_law_k", "_law_word_here"] ["_law_box_here", "_law_known"] (defScope s__law_rows) := ⟨rfl, rfl, rfl, by decide +kernel, rfl, by decide +kernel, by decide +kernel⟩
def m__law_rows (p_law_known : (List Str)) : DM (List (Str × Int)) := fun Q X =>
  m_draw (9 : Int) (fun v6 =>
  (-100000 ≤ v6 ∧ v6 ≤ 100000) ∧
  forD (intsF 0 (v6).toNat) ([], []) (fun x4 s3 nx bk =>
  joinD (fun j9 =>
  andD (!(p_law_known).isEmpty) (fun k11 => m_draw (2 : Int) (fun v12 =>
  k11 (decide (v12 = (1 : Int)))) noX) (fun c10 =>
  ifD c10 (
  m_draw ((p_law_known).length : Int) (fun v14 =>
  ∃ v15, atI p_law_known v14 = some v15 ∧
  ifD (decide (v15 ∈ s3.2)) (
  m__law_fresh s3.2 (fun v16 =>
  j9 v16) noX) (
  j9 v15)) noX) (
  m__law_fresh s3.2 (fun v17 =>
  j9 v17) noX))) (fun s8 : Str =>
  (s3.2).length < big ∧
  m__law_number  (fun v19 =>
  (s3.1).length < big ∧
  nx ((s3.1 ++ [(s8, v19)]), (s3.2 ++ [s8]))) noX)) (fun s3 =>
  Q s3.1)) noX
theorem ok__law_rows {k : Nat} {cs : EK → Addr} (B : Bl mg) (D__law_draw : Def P w K mg base CX0 k "_law_draw" ["_law_box_here", "_law_limit"] (spC (preKN 1 (preBW (fun x : Int => [iz zI x]) zI m_draw)))) (D__law_fresh : Def P w K mg base CX0 k "_law_fresh" ["_law_box_here", "_law_used"] (spC (preKN 1 (preBW (fun x : (List Str) => [iz (yL yS) x]) yS (fun x => m__law_fresh x))))) (D__law_number : Def P w K mg base CX0 k "_law_number" ["_law_box_here"] (spC (preKN 3 (preBW (fun x : Unit => []) zI (fun x => m__law_number)))))
    (F : Src K mg "_law_rows" s__law_rows ["_law_box_here", "_law_known"]) : Def P w K mg base CX0 (k + 1) "_law_rows" ["_law_box_here", "_law_known"] (spC (preKN 600001 (preBW (fun x : (List Str) => [iz (yL yS) x]) (yL (z2 yS zI)) (fun x => m__law_rows x)))) := by
  refine F.okKN sc__law_rows (fun _ => rfl) (fun f cdv A outer s H E b l n p_law_known Q hN hr h => ⟨_, (pss_cons (ps_asg (pe_lst pa_nil) (pg_name (i := 2) sc__law_rows.nd rfl (Or.inl rfl)))
 (pss_cons (ps_asg (pe_lst pa_nil) (pg_name (i := 3) sc__law_rows.nd rfl (Or.inl rfl)))
 (pss_cons (ps_for PassesOwn.never rfl (pi_range1 (by rfl) B.range (pa_cons (pe_def D__law_draw hr pass0 (pa_cons (pv 0) (pa_cons pe_int pa_nil))) pa_nil)) (pg_name (i := 4) sc__law_rows.nd rfl (Or.inl rfl)) (C8.pss_cut (ps_if (PW.pt (pw_and (kpt_truth (Kf := K) (pv 1) (by intro _; rfl)) (pw_and1 (pt_cmpR op_eq (pe_def D__law_draw hr pass0 (pa_cons (pv 0) (pa_cons pe_int pa_nil))) pe_int (nomark _))))) (pss_cons (ps_asg (pe_ix (kix_list (K := K)) (pv 1) (pe_def D__law_draw hr pass0 (pa_cons (pv 0) (pa_cons (pe_callB (kcall_len (K := K)) (by rfl) B.len PySem.boot_len (pa_cons (pv 1) pa_nil)) pa_nil))) (fun _ _ => rfl)) (pg_name (i := 5) sc__law_rows.nd rfl (Or.inl rfl)))
 (pss_one (ps_if (pt_cmpR (kop_in (K := K)) (pv 5) (pv 3) rfl) (pss_one (ps_asg (pe_def D__law_fresh hr pass0 (pa_cons (pv 0) (pa_cons (pv 3) pa_nil))) (pg_name (i := 5) sc__law_rows.nd rfl (Or.inl rfl)))) pss_nil))) (pss_one (ps_asg (pe_def D__law_fresh hr pass0 (pa_cons (pv 0) (pa_cons (pv 3) pa_nil))) (pg_name (i := 5) sc__law_rows.nd rfl (Or.inl rfl)))))
 (pss_cons (ps_expr (pe_bm PySem.F.plainAttrs_list PySem.F.slot_list_append PySem.F.type_list_append mt_append (pv 3) (pa_cons (pv 5) pa_nil)))
 (pss_one (ps_expr (pe_bm PySem.F.plainAttrs_list PySem.F.slot_list_append PySem.F.type_list_append mt_append (pv 2) (pa_cons (pe_tup (pa_cons (pv 5) (pa_cons (pe_def D__law_number hr pass0 (pa_cons (pv 0) pa_nil)) pa_nil))) pa_nil)))))))
 (pss_one (ps_ret (pv 2)))))), fun fr Qv hret => ?_⟩)
  replace h : m__law_rows p_law_known Q noX := h
  unfold m__law_rows at h
  refine kn_seq (kn_asg (i := 2) (we_ownY (z2 yS zI) (wa_nil (⟨[], rfl, Nat.le_of_ble_eq_true rfl, fun a1 => ?_⟩))))
  refine kn_nrm (Γ' := [some (zAt b), some (iz (yL yS) p_law_known), some (zAt a1), none, none, none]) rfl ?_
  try dsimp only
  refine kn_seq (kn_asg (i := 3) (we_ownY yS (wa_nil (⟨[], rfl, Nat.le_of_ble_eq_true rfl, fun a2 => ?_⟩))))
  refine kn_nrm (Γ' := [some (zAt b), some (iz (yL yS) p_law_known), some (zAt a1), some (zAt a2), none, none]) rfl ?_
  try dsimp only
  refine kn_seq (kn_forK (r := zI) (S := (List (Str × Int)) × (List Str)) (fun s3 => [some (zAt b), some (iz (yL yS) p_law_known), some (zAt a1), some (zAt a2), none, none]) (fun i s3 => [cY a2 yS s3.2, cY a1 (z2 yS zI) s3.1, cBagC ((n + 1) + i * 6) b l]) (fun s3 => [cY a2 yS s3.2, cY a1 (z2 yS zI) s3.1, cBagC ((n + 1) + 600000) b l]) ([], []) (wi_range (wa_cons (we_callE (wa_cons (we_var rfl (wa_cons (we_cI (wa_nil ?_)))))))))
  refine sps_KN (j := 2) rfl (by have hb : big = 100000 := rfl; omega) (9 : Int) h (fun v6 h => ?_)
  try dsimp only [List.set]
  refine wa_nil ?_
  obtain ⟨g7, h⟩ := h
  refine ⟨_, rfl, (by have hb : big = 100000 := rfl; omega), (by have hb : big = 100000 := rfl; omega), ⟨_, _, _, _, _, rfl, .cons (.refl _) (.cons (.refl _) (.cons (.bag (by have hb : big = 100000 := rfl; omega)) (.nil))), (by and_intros), fun _ _ => tg_name, h, fun fr' le i5 x4 s3 nx M hi5 hnx hbk h => ?_, fun s3 => .cons (.refl _) (.cons (.refl _) (.cons (.bag (by have hb : big = 100000 := rfl; have hl : ((intsF 0 (v6).toNat)).length ≤ big := (intsF_big (by have hb : big = 100000 := rfl; omega)); omega)) (.nil))), fun s3 h => ?_⟩⟩
  · replace hi5 := Nat.lt_of_lt_of_le hi5 (show _ ≤ 100000 from (intsF_big (by have hb : big = 100000 := rfl; omega)))
    have hret := hret.fine le
    refine kn_cutK (S := Str) (fun s8 => [some (zAt b), some (iz (yL yS) p_law_known), some (zAt a1), some (zAt a2), some (iz zI x4), some (iz yS s8)]) (fun s8 => [cY a2 yS s3.2, cY a1 (z2 yS zI) s3.1, cBagC (((n + 1) + i5 * 6) + 3) b l]) h (fun M hjn h => ?_) (fun s8 h => ?_)
    · refine kn_if (wt_andCB (wt_tru (we_var rfl (⟨_, ty_L', ?_⟩))))
      refine andKB (Θ2 := [cY a2 yS s3.2, cY a1 (z2 yS zI) s3.1, cBagC (((n + 1) + i5 * 6) + 1) b l]) (.cons (.refl _) (.cons (.refl _) (.cons (.bag (by have hb : big = 100000 := rfl; omega)) (.nil)))) h (fun h => ?_) (fun c10 h => ?_)
      · refine wt_test (we_op (we_callE (wa_cons (we_var rfl (wa_cons (we_cI (wa_nil ?_)))))))
        refine sps_KN (j := 2) rfl (by have hb : big = 100000 := rfl; omega) (2 : Int) h (fun v12 h => ?_)
        try dsimp only [List.set]
        refine we_cI (ops_eqI (⟨_, rfl, ?_⟩))
        exact ⟨rfl, h⟩
      refine ⟨fun hc => ?_, fun hc => ?_⟩
      · have h := h.1 hc
        refine kn_seq (kn_asg (i := 5) (we_op (we_var rfl (we_callE (wa_cons (we_var rfl (wa_cons (we_cb (wa_cons (we_var rfl (wa_nil (cy_len sy_L (fun e13 => (wa_nil ?_))))))))))))))
        refine sps_KN (j := 2) rfl (by have hb : big = 100000 := rfl; omega) ((p_law_known).length : Int) h (fun v14 h => ?_)
        try dsimp only [List.set]
        obtain ⟨v15, ev15, h⟩ := h
        refine oy_ixL ev15 ?_
        refine kn_nrm (Γ' := [some (zAt b), some (iz (yL yS) p_law_known), some (zAt a1), some (zAt a2), some (iz zI x4), some (iz yS v15)]) rfl ?_
        try dsimp only
        refine kn_if (wt_test (we_op (we_var rfl (we_var rfl (oy_inS (sy_C (j := 0) rfl) (⟨_, rfl, ⟨fun hc => ?_, fun hc => ?_⟩⟩))))))
        · have h := h.1 hc
          refine kn_asg (i := 5) (we_callE (wa_cons (we_var rfl (wa_cons (we_var rfl (wa_nil ?_))))))
          refine sps_KNl (j := 2) (i := 0) rfl rfl (by decide) (by have hb : big = 100000 := rfl; omega) s3.2 h (fun v16 h => ?_) ⟨_, rfl, .cons (.inr ⟨rfl, rfl⟩) (.nil)⟩
          try dsimp only [List.set]
          exact hjn v16 _ _ h (by and_intros) (.cons (.refl _) (.cons (.refl _) (.cons (.bag (by have hb : big = 100000 := rfl; omega)) (.nil))))
        · have h := h.2 hc
          refine kn_next ?_
          exact hjn v15 _ _ h (by and_intros) (.cons (.refl _) (.cons (.refl _) (.cons (.bag (by have hb : big = 100000 := rfl; omega)) (.nil))))
      · have h := h.2 hc
        refine kn_asg (i := 5) (we_callE (wa_cons (we_var rfl (wa_cons (we_var rfl (wa_nil ?_))))))
        refine sps_KNl (j := 2) (i := 0) rfl rfl (by decide) (by have hb : big = 100000 := rfl; omega) s3.2 h (fun v17 h => ?_) ⟨_, rfl, .cons (.inr ⟨rfl, rfl⟩) (.nil)⟩
        try dsimp only [List.set]
        exact hjn v17 _ _ h (by and_intros) (.cons (.refl _) (.cons (.refl _) (.cons (.bag (by have hb : big = 100000 := rfl; omega)) (.nil))))
    try dsimp only
    refine kn_seq (kn_appY (i := 3) (j := 0) rfl rfl (we_var rfl ?_))
    obtain ⟨g18, h⟩ := h
    refine ⟨_, rfl, rfl, g18, ?_⟩
    try dsimp only
    refine kn_appY (i := 2) (j := 1) rfl rfl (we_tup (wa_cons (we_var rfl (wa_cons (we_callE (wa_cons (we_var rfl (wa_nil ?_))))))))
    refine sps_KN (j := 2) rfl (by have hb : big = 100000 := rfl; omega) () h (fun v19 h => ?_)
    try dsimp only [List.set]
    refine wa_nil (⟨Nat.le_of_ble_eq_true rfl, iz (z2 yS zI) (s8, v19), tr2, ?_⟩)
    obtain ⟨g20, h⟩ := h
    refine ⟨_, rfl, rfl, g20, ?_⟩
    exact hnx ((s3.1 ++ [(s8, v19)]), (s3.2 ++ [s8])) _ _ h (by and_intros) (.cons (.refl _) (.cons (.refl _) (.cons (.bag (by have hb : big = 100000 := rfl; omega)) (.nil))))
  try dsimp only
  refine kn_ret (we_var rfl ?_)
  exact rt_frzY (j := 1) rfl (hret _ h _ _ (by have hb : big = 100000 := rfl; omega) (List.mem_of_getElem? (i := 1) rfl))
abbrev s__law_is_int : Stmt := topS 20
theorem sc__law_is_int : FnScope ["_law_value"] ["_law_value"] (defScope s__law_is_int) := ⟨rfl, rfl, rfl, by decide +kernel, rfl, by decide +kernel, by decide +kernel⟩
def m__law_is_int (p_law_value : Int) : DM Bool := fun Q X =>
  Q (true && (!false))
theorem ok__law_is_int {k : Nat} {cs : EK → Addr} (B : Bl mg) 
    (F : Src K mg "_law_is_int" s__law_is_int ["_law_value"]) : Def P w K mg base CX0 (k + 1) "_law_is_int" ["_law_value"] (spA (preW (erW cs) (fun x : Int => [iz zI x]) zB (fun x => m__law_is_int x))) := by
  refine F.okW sc__law_is_int (fun _ => rfl) (fun f cdv A outer s H E p_law_value Q X hr h => ⟨_, (pss_one (ps_ret (pe_and (pe_callB (kcall_isi (K := K)) (by rfl) B.isinstance (by decide +kernel) (pa_cons (pv 0) (pa_cons (pe_bltn (v := .ty "int") (by rfl) B.int' (by decide +kernel) rfl) pa_nil))) (pe_one (pe_not (pe_callB (kcall_isi (K := K)) (by rfl) B.isinstance (by decide +kernel) (pa_cons (pv 0) (pa_cons (pe_bltn (v := .ty "bool") (by rfl) B.bool' (by decide +kernel) rfl) pa_nil)))))))), fun fr Qv hret => ?_⟩)
  replace h : m__law_is_int p_law_value Q X := h
  unfold m__law_is_int at h
  refine kn_ret (we_andP (we_cb (wa_cons (we_var rfl (wa_cons (we_cT (wa_nil (cb_isi ty_I (show kitB "int" "int" = some true by decide +kernel) (⟨_, _, rfl, fun _ => we_not (we_cb (wa_cons (we_var rfl (wa_cons (we_cT (wa_nil (cb_isi ty_I (show kitB "int" "bool" = some false by decide +kernel) (⟨_, rfl, ⟨rfl, rfl⟩⟩)))))))), ?_⟩)))))))))
  exact hret _ h _
abbrev s__law_refused : Stmt := topS 21
theorem sc__law_refused : FnScope ["_law_rows_here", "e"] ["_law_rows_here"] (defScope s__law_refused) := ⟨rfl, rfl, rfl, by decide +kernel, rfl, by decide +kernel, by decide +kernel⟩
def m__law_refused (p_law_rows_here : (List (Str × Int))) : DM ((Str × Str × Bool × Bool × Bool) ⊕ (Str)) := fun Q X =>
  joinD (fun j2 =>
  tryD (fun e => match e with
  | .badWord y6 => Q ((.inl (("BadWord" : Str), y6, false, true, true)) : ((Str × Str × Bool × Bool × Bool) ⊕ (Str)))
  | .double y9 => Q ((.inl (("DoubleName" : Str), y9, false, true, true)) : ((Str × Str × Bool × Bool × Bool) ⊕ (Str)))
  | e => noX e) (fun X3 =>
  m_Tally___init__ p_law_rows_here (fun v4 =>
  j2 ()) X3)) (fun s1 : Unit =>
  Q ((.inr ("none" : Str)) : ((Str × Str × Bool × Bool × Bool) ⊕ (Str))))
theorem ok__law_refused {k : Nat} {cs : EK → Addr} {C_HeldError f_BadWord f_DoubleName C_Tally : Addr} (B : Bl mg) (g_DoubleName : Glo mg "DoubleName" (.ref (cs .double))) (g_HeldError : Glo mg "HeldError" (.ref C_HeldError)) (g_BadWord : Glo mg "BadWord" (.ref (cs .badWord))) (X_BadWord : ErrTxt P K mg false "BadWord" (cs .badWord) f_BadWord ["word"]) (X_DoubleName : ErrTxt P K mg false "DoubleName" (cs .double) f_DoubleName ["name"]) (kt_BadWord_DoubleName : PySem.W.kitOne K (.ref (cs .badWord)) (.ref (cs .double)) = some false) (kt_BadWord_HeldError : PySem.W.kitOne K (.ref (cs .badWord)) (.ref C_HeldError) = some true) (kt_BadWord_ValueError : PySem.W.kitOne K (.ref (cs .badWord)) (.type "ValueError") = some true) (kt_DoubleName_BadWord : PySem.W.kitOne K (.ref (cs .double)) (.ref (cs .badWord)) = some false) (kt_DoubleName_HeldError : PySem.W.kitOne K (.ref (cs .double)) (.ref C_HeldError) = some true) (kt_DoubleName_ValueError : PySem.W.kitOne K (.ref (cs .double)) (.type "ValueError") = some true) (xN_DoubleName_BadWord : PySem.W.exmOne K (.ref (cs .double)) (.ref (cs .badWord)) = some false) (m_Tally : mg "Tally" = some (.ref C_Tally)) (DI_Tally : DefI P w K mg base (L2.CX P w) k C_Tally ["self", "rows"] (spI C_Tally (preW (erW cs) (fun x : (List (Str × Int)) => [iz (yL (z2 yS zI)) x]) (zTally C_Tally) (fun x => m_Tally___init__ x))))
    (F : Src K mg "_law_refused" s__law_refused ["_law_rows_here"]) : Def P w K mg base CX0 (k + 2) "_law_refused" ["_law_rows_here"] (spA (preW (erW cs) (fun x : (List (Str × Int)) => [iz (yL (z2 yS zI)) x]) (yU (z5 yS yS zB zB zB) (z1 yS)) (fun x => m__law_refused x))) := by
  refine F.okW sc__law_refused (fun _ => rfl) (fun f cdv A outer s H E p_law_rows_here Q X hr h => ⟨_, (C8.pss_cut (ps_try_all (K := K) rfl rfl sc__law_refused.nd takes0 (fun W pn xe tk _ => (pss_one (ps_expr (pe_mkD DI_Tally m_Tally hr (fun σ => passAt tk σ) (pa_cons (pv 0) pa_nil))))) (by exact (.named (i := 1) rfl rfl ⟨rfl, by decide, .inl X_BadWord.gC⟩ (fun a oe cls d pn hz hf => (pss_one (ps_ret (pe_tup (pa_cons pe_str (pa_cons (pe_xf X_BadWord.xf (X_BadWord.noN _ (by decide)) hz hf (pv 1)) (pa_cons (pe_callB (call_isD hz hf) (by rfl) B.isinstance (by decide +kernel) (pa_cons (pv 1) (pa_cons (pe_glo g_DoubleName) pa_nil))) (pa_cons (pe_callB (call_isD hz hf) (by rfl) B.isinstance (by decide +kernel) (pa_cons (pv 1) (pa_cons (pe_glo g_HeldError) pa_nil))) (pa_cons (pe_callB (call_isD hz hf) (by rfl) B.isinstance (by decide +kernel) (pa_cons (pv 1) (pa_cons (pe_bltn (v := .ty "ValueError") (by rfl) B.ValueError (by decide +kernel) rfl) pa_nil))) pa_nil))))))))) (.named (i := 1) rfl rfl ⟨rfl, by decide, .inl X_DoubleName.gC⟩ (fun a oe cls d pn hz hf => (pss_one (ps_ret (pe_tup (pa_cons pe_str (pa_cons (pe_xf X_DoubleName.xf (X_DoubleName.noN _ (by decide)) hz hf (pv 1)) (pa_cons (pe_callB (call_isD hz hf) (by rfl) B.isinstance (by decide +kernel) (pa_cons (pv 1) (pa_cons (pe_glo g_BadWord) pa_nil))) (pa_cons (pe_callB (call_isD hz hf) (by rfl) B.isinstance (by decide +kernel) (pa_cons (pv 1) (pa_cons (pe_glo g_HeldError) pa_nil))) (pa_cons (pe_callB (call_isD hz hf) (by rfl) B.isinstance (by decide +kernel) (pa_cons (pv 1) (pa_cons (pe_bltn (v := .ty "ValueError") (by rfl) B.ValueError (by decide +kernel) rfl) pa_nil))) pa_nil))))))))) .nil))))
 (pss_one (ps_ret (pe_tup (pa_cons pe_str pa_nil))))), fun fr Qv hret => ?_⟩)
  replace h : m__law_refused p_law_rows_here Q X := h
  unfold m__law_refused at h
  refine kn_cutW (S := Unit) (fun s1 => [some (iz (yL (z2 yS zI)) p_law_rows_here), none]) (fun s1 => []) h (fun M hjn h => ?_) (fun s1 h => ?_)
  · replace h := tryD.go h
    try dsimp only
    refine kn_drop (we_mkP (wa_cons (we_var rfl (wa_nil ?_))))
    refine mkWT p_law_rows_here h (fun zv5 h => ?_) (fun v4 h => ?_)
    · cases zv5 with
      | badWord y6 =>
        try dsimp only at h
        refine kr_cl X_BadWord.te fun a7 d8 => ?_
        try dsimp only
        refine kn_ret (We.conv (we_tup (wa_cons (we_cSy (z := "BadWord") (asc_of (by decide)) (by decide) (wa_cons (we_xf (we_var rfl (⟨rfl, rfl, wa_cons (we_cb (wa_cons (we_var rfl (wa_cons (we_cA (wa_nil (cb_isD X_BadWord.isC kt_BadWord_DoubleName (wa_cons (we_cb (wa_cons (we_var rfl (wa_cons (we_cA (wa_nil (cb_isD X_BadWord.isC kt_BadWord_HeldError (wa_cons (we_cb (wa_cons (we_var rfl (wa_cons (we_cT (wa_nil (cb_isDT X_BadWord.isC kt_BadWord_ValueError (wa_nil (⟨Nat.le_of_ble_eq_true rfl, iz (z5 yS yS zB zB zB) (("BadWord" : Str), y6, false, true, true), tr5, ⟨iz (yU (z5 yS yS zB zB zB) (z1 yS)) (.inl (("BadWord" : Str), y6, false, true, true)), fun F v h => h, ?_⟩⟩)))))))))))))))))))))))))⟩))))))))
        exact hret _ h _
      | double y9 =>
        try dsimp only at h
        refine kr_clN xN_DoubleName_BadWord ?_
        refine kr_cl X_DoubleName.te fun a10 d11 => ?_
        try dsimp only
        refine kn_ret (We.conv (we_tup (wa_cons (we_cSy (z := "DoubleName") (asc_of (by decide)) (by decide) (wa_cons (we_xf (we_var rfl (⟨rfl, rfl, wa_cons (we_cb (wa_cons (we_var rfl (wa_cons (we_cA (wa_nil (cb_isD X_DoubleName.isC kt_DoubleName_BadWord (wa_cons (we_cb (wa_cons (we_var rfl (wa_cons (we_cA (wa_nil (cb_isD X_DoubleName.isC kt_DoubleName_HeldError (wa_cons (we_cb (wa_cons (we_var rfl (wa_cons (we_cT (wa_nil (cb_isDT X_DoubleName.isC kt_DoubleName_ValueError (wa_nil (⟨Nat.le_of_ble_eq_true rfl, iz (z5 yS yS zB zB zB) (("DoubleName" : Str), y9, false, true, true), tr5, ⟨iz (yU (z5 yS yS zB zB zB) (z1 yS)) (.inl (("DoubleName" : Str), y9, false, true, true)), fun F v h => h, ?_⟩⟩)))))))))))))))))))))))))⟩))))))))
        exact hret _ h _
      | _ => exact (show False from h).elim
    exact hjn () _ _ h (by and_intros) rfl
  try dsimp only
  refine kn_ret (We.conv (we_tup (wa_cons (we_cSy (z := "none") (asc_of (by decide)) (by decide) (wa_nil (⟨Nat.le_of_ble_eq_true rfl, iz (z1 yS) ("none" : Str), tr1, ⟨iz (yU (z5 yS yS zB zB zB) (z1 yS)) (.inr ("none" : Str)), fun F v h => h, ?_⟩⟩))))))
  exact hret _ h _
abbrev s__law_wrong_list : Stmt := topS 22
theorem sc__law_wrong_list : FnScope ["_law_box_here", "_law_rows_here", "_law_at", "_law_wrong", "_law_due", "_law_first", "_law_spoilt", "_law_where", "_law_extra"] ["_law_box_here", "_law_rows_here"] (defScope s__law_wrong_list) := ⟨rfl, rfl, rfl, by decide +kernel, rfl, by decide +kernel, by decide +kernel⟩
def m__law_wrong_list (p_law_rows_here : (List (Str × Int))) : DM Bool := fun Q X =>
  m_draw (((p_law_rows_here).length : Int) + (1 : Int)) (fun v2 =>
  m_draw (8 : Int) (fun v3 =>
  ∃ v4, atI ([("" : Str), ("A" : Str), ("1a" : Str), ("a_b" : Str), ("a b" : Str), ("abcdefghijklm" : Str), ("aB" : Str), ("a-" : Str)]) v3 = some v4 ∧
  ∀ due5, due5 = (("BadWord" : Str), v4, false, true, true) →
  joinD (fun j7 =>
  andD (!(p_law_rows_here).isEmpty) (fun k9 => m_draw (2 : Int) (fun v10 =>
  k9 (decide (v10 = (1 : Int)))) noX) (fun c8 =>
  ifD c8 (
  m_draw ((p_law_rows_here).length : Int) (fun v12 =>
  ∃ v13, atI p_law_rows_here v12 = some v13 ∧
  m_draw (((p_law_rows_here).length : Int) - v12) (fun v15 =>
  ∀ at16, at16 = ((v12 + (1 : Int)) + v15) →
  ∀ due17, due17 = (("DoubleName" : Str), v13.1, false, true, true) →
  j7 (at16, v13.1, due17)) noX) noX) (
  j7 (v2, v4, due5)))) (fun s6 : Int × Str × (Str × Str × Bool × Bool × Bool) =>
  ((cutX p_law_rows_here none (some s6.1))).length + ([(s6.2.1, (1 : Int))]).length ≤ big ∧
  (((cutX p_law_rows_here none (some s6.1)) ++ [(s6.2.1, (1 : Int))])).length + ((cutX p_law_rows_here (some s6.1) none)).length ≤ big ∧
  ∀ spoilt20, spoilt20 = (((cutX p_law_rows_here none (some s6.1)) ++ [(s6.2.1, (1 : Int))]) ++ (cutX p_law_rows_here (some s6.1) none)) →
  m_draw (3 : Int) (fun v21 =>
  m_draw (6 : Int) (fun v22 =>
  ∃ v23, atI ([("" : Str), ("Z" : Str), ("9z" : Str), ("z_" : Str), ("z z" : Str), ("zzzzzzzzzzzzz" : Str)]) v22 = some v23 ∧
  joinD (fun j25 =>
  ifD (decide (v21 = (1 : Int))) (
  (spoilt20).length + ([(v23, (2 : Int))]).length ≤ big ∧
  ∀ spoilt27, spoilt27 = (spoilt20 ++ [(v23, (2 : Int))]) →
  j25 spoilt27) (
  j25 spoilt20)) (fun s24 : (List (Str × Int)) =>
  joinD (fun j29 =>
  ifD (decide (v21 = (2 : Int))) (
  ([(v23, (2 : Int))]).length + (s24).length ≤ big ∧
  ∀ spoilt31, spoilt31 = ([(v23, (2 : Int))] ++ s24) →
  ∀ due32, due32 = (("BadWord" : Str), v23, false, true, true) →
  j29 (due32, spoilt31)) (
  j29 (s6.2.2, s24))) (fun s28 : (Str × Str × Bool × Bool × Bool) × (List (Str × Int)) =>
  m__law_refused s28.2 (fun v33 =>
  Q (PyData.eqv (EDat.enc (r := (yU (z5 yS yS zB zB zB) (z1 yS))) v33) (EDat.enc (r := (z5 yS yS zB zB zB)) s28.1))) noX))) noX) noX)) noX) noX
theorem ok__law_wrong_list {k : Nat} {cs : EK → Addr} (B : Bl mg) (D__law_draw : Def P w K mg base CX0 k "_law_draw" ["_law_box_here", "_law_limit"] (spC (preKN 1 (preBW (fun x : Int => [iz zI x]) zI m_draw)))) (D__law_refused : Def P w K mg base CX0 k "_law_refused" ["_law_rows_here"] (spA (preW (erW cs) (fun x : (List (Str × Int)) => [iz (yL (z2 yS zI)) x]) (yU (z5 yS yS zB zB zB) (z1 yS)) (fun x => m__law_refused x))))
    (F : Src K mg "_law_wrong_list" s__law_wrong_list ["_law_box_here", "_law_rows_here"]) : Def P w K mg base CX0 (k + 1) "_law_wrong_list" ["_law_box_here", "_law_rows_here"] (spC (preKN 7 (preBW (fun x : (List (Str × Int)) => [iz (yL (z2 yS zI)) x]) zB (fun x => m__law_wrong_list x)))) := by
  refine F.okKN sc__law_wrong_list (fun _ => rfl) (fun f cdv A outer s H E b l n p_law_rows_here Q hN hr h => ⟨_, (pss_cons (ps_asg (pe_def D__law_draw hr pass0 (pa_cons (pv 0) (pa_cons (pe_op op_add (pe_callB (kcall_len (K := K)) (by rfl) B.len PySem.boot_len (pa_cons (pv 1) pa_nil)) pe_int) pa_nil))) (pg_name (i := 2) sc__law_wrong_list.nd rfl (Or.inl rfl)))
 (pss_cons (ps_asg (pe_ix (kix_list (K := K)) (pe_lst (pa_cons pe_str (pa_cons pe_str (pa_cons pe_str (pa_cons pe_str (pa_cons pe_str (pa_cons pe_str (pa_cons pe_str (pa_cons pe_str pa_nil))))))))) (pe_def D__law_draw hr pass0 (pa_cons (pv 0) (pa_cons pe_int pa_nil))) (fun _ _ => rfl)) (pg_name (i := 3) sc__law_wrong_list.nd rfl (Or.inl rfl)))
 (pss_cons (ps_asg (pe_tup (pa_cons pe_str (pa_cons (pv 3) (pa_cons pe_bl (pa_cons pe_bl (pa_cons pe_bl pa_nil)))))) (pg_name (i := 4) sc__law_wrong_list.nd rfl (Or.inl rfl)))
 (C8.pss_cut (ps_if (PW.pt (pw_and (kpt_truth (Kf := K) (pv 1) (by intro _; rfl)) (pw_and1 (pt_cmpR op_eq (pe_def D__law_draw hr pass0 (pa_cons (pv 0) (pa_cons pe_int pa_nil))) pe_int (nomark _))))) (pss_cons (ps_asg (pe_def D__law_draw hr pass0 (pa_cons (pv 0) (pa_cons (pe_callB (kcall_len (K := K)) (by rfl) B.len PySem.boot_len (pa_cons (pv 1) pa_nil)) pa_nil))) (pg_name (i := 5) sc__law_wrong_list.nd rfl (Or.inl rfl)))
 (pss_cons (ps_asg (pe_ix (kix_tup (K := K)) (pe_ix (kix_list (K := K)) (pv 1) (pv 5) (fun _ _ => rfl)) pe_int (fun _ _ => rfl)) (pg_name (i := 3) sc__law_wrong_list.nd rfl (Or.inl rfl)))
 (pss_cons (ps_asg (pe_op op_add (pe_op op_add (pv 5) pe_int) (pe_def D__law_draw hr pass0 (pa_cons (pv 0) (pa_cons (pe_op op_sub (pe_callB (kcall_len (K := K)) (by rfl) B.len PySem.boot_len (pa_cons (pv 1) pa_nil)) (pv 5)) pa_nil)))) (pg_name (i := 2) sc__law_wrong_list.nd rfl (Or.inl rfl)))
 (pss_one (ps_asg (pe_tup (pa_cons pe_str (pa_cons (pv 3) (pa_cons pe_bl (pa_cons pe_bl (pa_cons pe_bl pa_nil)))))) (pg_name (i := 4) sc__law_wrong_list.nd rfl (Or.inl rfl))))))) pss_nil)
 (pss_cons (ps_asg (pe_op op_cat (pe_op op_cat (pe_slice (ksl_list (K := K)) (pv 1) po_none (po_some (pv 2))) (pe_lst (pa_cons (pe_tup (pa_cons (pv 3) (pa_cons pe_int pa_nil))) pa_nil))) (pe_slice (ksl_list (K := K)) (pv 1) (po_some (pv 2)) po_none)) (pg_name (i := 6) sc__law_wrong_list.nd rfl (Or.inl rfl)))
 (pss_cons (ps_asg (pe_def D__law_draw hr pass0 (pa_cons (pv 0) (pa_cons pe_int pa_nil))) (pg_name (i := 7) sc__law_wrong_list.nd rfl (Or.inl rfl)))
 (pss_cons (ps_asg (pe_ix (kix_list (K := K)) (pe_lst (pa_cons pe_str (pa_cons pe_str (pa_cons pe_str (pa_cons pe_str (pa_cons pe_str (pa_cons pe_str pa_nil))))))) (pe_def D__law_draw hr pass0 (pa_cons (pv 0) (pa_cons pe_int pa_nil))) (fun _ _ => rfl)) (pg_name (i := 8) sc__law_wrong_list.nd rfl (Or.inl rfl)))
 (C8.pss_cut (ps_if (pt_cmpR op_eq (pv 7) pe_int (nomark _)) (pss_one (ps_asg (pe_op op_cat (pv 6) (pe_lst (pa_cons (pe_tup (pa_cons (pv 8) (pa_cons pe_int pa_nil))) pa_nil))) (pg_name (i := 6) sc__law_wrong_list.nd rfl (Or.inl rfl)))) pss_nil)
 (C8.pss_cut (ps_if (pt_cmpR op_eq (pv 7) pe_int (nomark _)) (pss_cons (ps_asg (pe_op op_cat (pe_lst (pa_cons (pe_tup (pa_cons (pv 8) (pa_cons pe_int pa_nil))) pa_nil)) (pv 6)) (pg_name (i := 6) sc__law_wrong_list.nd rfl (Or.inl rfl)))
 (pss_one (ps_asg (pe_tup (pa_cons pe_str (pa_cons (pv 8) (pa_cons pe_bl (pa_cons pe_bl (pa_cons pe_bl pa_nil)))))) (pg_name (i := 4) sc__law_wrong_list.nd rfl (Or.inl rfl))))) pss_nil)
 (pss_one (ps_ret (pe_cmpR (kop_eqD (K := K) hr.units) (pe_def D__law_refused hr pass0 (pa_cons (pv 6) pa_nil)) (pv 4) (nomark _))))))))))))), fun fr Qv hret => ?_⟩)
  replace h : m__law_wrong_list p_law_rows_here Q noX := h
  unfold m__law_wrong_list at h
  refine kn_seq (kn_asg (i := 2) (we_callE (wa_cons (we_var rfl (wa_cons (we_op (we_cb (wa_cons (we_var rfl (wa_nil (cy_len sy_L (fun e1 => (we_cI (ops_I0 (wa_nil ?_)))))))))))))))
  refine sps_KN (j := 0) rfl (by have hb : big = 100000 := rfl; omega) (((p_law_rows_here).length : Int) + (1 : Int)) h (fun v2 h => ?_)
  try dsimp only [List.set]
  refine kn_nrm (Γ' := [some (zAt b), some (iz (yL (z2 yS zI)) p_law_rows_here), some (iz zI v2), none, none, none, none, none, none]) rfl ?_
  try dsimp only
  refine kn_seq (kn_asg (i := 3) (we_op (we_lstY (r := yS) (wa_cons (we_cSy (z := "") (asc_of (by decide)) (by decide) (wa_cons (we_cSy (z := "A") (asc_of (by decide)) (by decide) (wa_cons (we_cSy (z := "1a") (asc_of (by decide)) (by decide) (wa_cons (we_cSy (z := "a_b") (asc_of (by decide)) (by decide) (wa_cons (we_cSy (z := "a b") (asc_of (by decide)) (by decide) (wa_cons (we_cSy (z := "abcdefghijklm") (asc_of (by decide)) (by decide) (wa_cons (we_cSy (z := "aB") (asc_of (by decide)) (by decide) (wa_cons (we_cSy (z := "a-") (asc_of (by decide)) (by decide) (wa_nil (⟨[("" : Str), ("A" : Str), ("1a" : Str), ("a_b" : Str), ("a b" : Str), ("abcdefghijklm" : Str), ("aB" : Str), ("a-" : Str)], rfl, Nat.le_of_ble_eq_true rfl, we_callE (wa_cons (we_var rfl (wa_cons (we_cI (wa_nil ?_)))))⟩)))))))))))))))))))))
  refine sps_KN (j := 0) rfl (by have hb : big = 100000 := rfl; omega) (8 : Int) h (fun v3 h => ?_)
  try dsimp only [List.set]
  obtain ⟨v4, ev4, h⟩ := h
  refine oy_ixL ev4 ?_
  refine kn_nrm (Γ' := [some (zAt b), some (iz (yL (z2 yS zI)) p_law_rows_here), some (iz zI v2), some (iz yS v4), none, none, none, none, none]) rfl ?_
  try dsimp only
  refine kn_seq (kn_asgL (i := 4) (r := (z5 yS yS zB zB zB)) (we_tup (wa_cons (we_cSy (z := "BadWord") (asc_of (by decide)) (by decide) (wa_cons (we_var rfl (wa_cons (we_cB (wa_cons (we_cB (wa_cons (we_cB (wa_nil (⟨Nat.le_of_ble_eq_true rfl, iz (z5 yS yS zB zB zB) (("BadWord" : Str), v4, false, true, true), tr5, ⟨_, rfl, fun due5 edue5 => ?_⟩⟩))))))))))))))
  have h := h due5 edue5
  refine kn_nrm (Γ' := [some (zAt b), some (iz (yL (z2 yS zI)) p_law_rows_here), some (iz zI v2), some (iz yS v4), some (iz (z5 yS yS zB zB zB) due5), none, none, none, none]) rfl ?_
  try dsimp only
  refine kn_cutK (S := Int × Str × (Str × Str × Bool × Bool × Bool)) (fun s6 => [some (zAt b), some (iz (yL (z2 yS zI)) p_law_rows_here), some (iz zI s6.1), some (iz yS s6.2.1), some (iz (z5 yS yS zB zB zB) s6.2.2), none, none, none, none]) (fun s6 => [cBagC (((n + 1) + 1) + 3) b l]) h (fun M hjn h => ?_) (fun s6 h => ?_)
  · refine kn_if (wt_andCB (wt_tru (we_var rfl (⟨_, ty_L', ?_⟩))))
    refine andKB (Θ2 := [cBagC (((n + 1) + 1) + 1) b l]) (.cons (.bag (by have hb : big = 100000 := rfl; omega)) (.nil)) h (fun h => ?_) (fun c8 h => ?_)
    · refine wt_test (we_op (we_callE (wa_cons (we_var rfl (wa_cons (we_cI (wa_nil ?_)))))))
      refine sps_KN (j := 0) rfl (by have hb : big = 100000 := rfl; omega) (2 : Int) h (fun v10 h => ?_)
      try dsimp only [List.set]
      refine we_cI (ops_eqI (⟨_, rfl, ?_⟩))
      exact ⟨rfl, h⟩
    refine ⟨fun hc => ?_, fun hc => ?_⟩
    · have h := h.1 hc
      refine kn_seq (kn_asg (i := 5) (we_callE (wa_cons (we_var rfl (wa_cons (we_cb (wa_cons (we_var rfl (wa_nil (cy_len sy_L (fun e11 => (wa_nil ?_))))))))))))
      refine sps_KN (j := 0) rfl (by have hb : big = 100000 := rfl; omega) ((p_law_rows_here).length : Int) h (fun v12 h => ?_)
      try dsimp only [List.set]
      refine kn_nrm (Γ' := [some (zAt b), some (iz (yL (z2 yS zI)) p_law_rows_here), some (iz zI v2), some (iz yS v4), some (iz (z5 yS yS zB zB zB) due5), some (iz zI v12), none, none, none]) rfl ?_
      try dsimp only
      refine kn_seq (kn_asg (i := 3) (we_op (we_op (we_var rfl (we_var rfl ?_)))))
      obtain ⟨v13, ev13, h⟩ := h
      refine oy_ixL ev13 (we_cI (ops_ix20 ?_))
      refine kn_nrm (Γ' := [some (zAt b), some (iz (yL (z2 yS zI)) p_law_rows_here), some (iz zI v2), some (iz yS v13.1), some (iz (z5 yS yS zB zB zB) due5), some (iz zI v12), none, none, none]) rfl ?_
      try dsimp only
      refine kn_seq (kn_asgL (i := 2) (r := zI) (we_op (we_op (we_var rfl (we_cI (ops_I0 (we_callE (wa_cons (we_var rfl (wa_cons (we_op (we_cb (wa_cons (we_var rfl (wa_nil (cy_len sy_L (fun e14 => (we_var rfl (ops_I0 (wa_nil ?_))))))))))))))))))))
      refine sps_KN (j := 0) rfl (by have hb : big = 100000 := rfl; omega) (((p_law_rows_here).length : Int) - v12) h (fun v15 h => ?_)
      try dsimp only [List.set]
      refine ops_I0 (⟨_, rfl, fun at16 eat16 => ?_⟩)
      have h := h at16 eat16
      refine kn_nrm (Γ' := [some (zAt b), some (iz (yL (z2 yS zI)) p_law_rows_here), some (iz zI at16), some (iz yS v13.1), some (iz (z5 yS yS zB zB zB) due5), some (iz zI v12), none, none, none]) rfl ?_
      try dsimp only
      refine kn_asgL (i := 4) (r := (z5 yS yS zB zB zB)) (we_tup (wa_cons (we_cSy (z := "DoubleName") (asc_of (by decide)) (by decide) (wa_cons (we_var rfl (wa_cons (we_cB (wa_cons (we_cB (wa_cons (we_cB (wa_nil (⟨Nat.le_of_ble_eq_true rfl, iz (z5 yS yS zB zB zB) (("DoubleName" : Str), v13.1, false, true, true), tr5, ⟨_, rfl, fun due17 edue17 => ?_⟩⟩)))))))))))))
      have h := h due17 edue17
      exact hjn (at16, v13.1, due17) _ _ h (by and_intros) (.cons (.bag (by have hb : big = 100000 := rfl; omega)) (.nil))
    · have h := h.2 hc
      refine kn_next ?_
      exact hjn (v2, v4, due5) _ _ h (by and_intros) (.cons (.bag (by have hb : big = 100000 := rfl; omega)) (.nil))
  try dsimp only
  refine kn_seq (kn_asgL (i := 6) (r := (yL (z2 yS zI))) (we_op (we_op (we_sl (we_var rfl (wo_none (wo_some (we_var rfl (⟨_, rfl, sy_slL (we_lstY (r := (z2 yS zI)) (wa_cons (we_tup (wa_cons (we_var rfl (wa_cons (we_cI (wa_nil (⟨Nat.le_of_ble_eq_true rfl, iz (z2 yS zI) (s6.2.1, (1 : Int)), tr2, wa_nil (⟨[(s6.2.1, (1 : Int))], rfl, Nat.le_of_ble_eq_true rfl, ?_⟩)⟩)))))))))⟩)))))))))
  obtain ⟨g18, h⟩ := h
  refine oy_cat g18 (we_sl (we_var rfl (wo_some (we_var rfl (⟨_, rfl, wo_none (sy_slL ?_)⟩)))))
  obtain ⟨g19, h⟩ := h
  refine oy_cat g19 (⟨_, rfl, fun spoilt20 espoilt20 => ?_⟩)
  have h := h spoilt20 espoilt20
  refine kn_nrm (Γ' := [some (zAt b), some (iz (yL (z2 yS zI)) p_law_rows_here), some (iz zI s6.1), some (iz yS s6.2.1), some (iz (z5 yS yS zB zB zB) s6.2.2), none, some (iz (yL (z2 yS zI)) spoilt20), none, none]) rfl ?_
  try dsimp only
  refine kn_seq (kn_asg (i := 7) (we_callE (wa_cons (we_var rfl (wa_cons (we_cI (wa_nil ?_)))))))
  refine sps_KN (j := 0) rfl (by have hb : big = 100000 := rfl; omega) (3 : Int) h (fun v21 h => ?_)
  try dsimp only [List.set]
  refine kn_nrm (Γ' := [some (zAt b), some (iz (yL (z2 yS zI)) p_law_rows_here), some (iz zI s6.1), some (iz yS s6.2.1), some (iz (z5 yS yS zB zB zB) s6.2.2), none, some (iz (yL (z2 yS zI)) spoilt20), some (iz zI v21), none]) rfl ?_
  try dsimp only
  refine kn_seq (kn_asg (i := 8) (we_op (we_lstY (r := yS) (wa_cons (we_cSy (z := "") (asc_of (by decide)) (by decide) (wa_cons (we_cSy (z := "Z") (asc_of (by decide)) (by decide) (wa_cons (we_cSy (z := "9z") (asc_of (by decide)) (by decide) (wa_cons (we_cSy (z := "z_") (asc_of (by decide)) (by decide) (wa_cons (we_cSy (z := "z z") (asc_of (by decide)) (by decide) (wa_cons (we_cSy (z := "zzzzzzzzzzzzz") (asc_of (by decide)) (by decide) (wa_nil (⟨[("" : Str), ("Z" : Str), ("9z" : Str), ("z_" : Str), ("z z" : Str), ("zzzzzzzzzzzzz" : Str)], rfl, Nat.le_of_ble_eq_true rfl, we_callE (wa_cons (we_var rfl (wa_cons (we_cI (wa_nil ?_)))))⟩)))))))))))))))))
  refine sps_KN (j := 0) rfl (by have hb : big = 100000 := rfl; omega) (6 : Int) h (fun v22 h => ?_)
  try dsimp only [List.set]
  obtain ⟨v23, ev23, h⟩ := h
  refine oy_ixL ev23 ?_
  refine kn_nrm (Γ' := [some (zAt b), some (iz (yL (z2 yS zI)) p_law_rows_here), some (iz zI s6.1), some (iz yS s6.2.1), some (iz (z5 yS yS zB zB zB) s6.2.2), none, some (iz (yL (z2 yS zI)) spoilt20), some (iz zI v21), some (iz yS v23)]) rfl ?_
  try dsimp only
  refine kn_cutW (S := (List (Str × Int))) (fun s24 => [some (zAt b), some (iz (yL (z2 yS zI)) p_law_rows_here), some (iz zI s6.1), some (iz yS s6.2.1), some (iz (z5 yS yS zB zB zB) s6.2.2), none, some (iz (yL (z2 yS zI)) s24), some (iz zI v21), some (iz yS v23)]) (fun s24 => [cBagC (((((n + 1) + 1) + 3) + 1) + 1) b l]) h (fun M hjn h => ?_) (fun s24 h => ?_)
  · refine kn_if (wt_test (we_op (we_var rfl (we_cI (ops_eqI (⟨_, rfl, ⟨fun hc => ?_, fun hc => ?_⟩⟩))))))
    · have h := h.1 hc
      refine kn_asgL (i := 6) (r := (yL (z2 yS zI))) (we_op (we_var rfl (we_lstY (r := (z2 yS zI)) (wa_cons (we_tup (wa_cons (we_var rfl (wa_cons (we_cI (wa_nil (⟨Nat.le_of_ble_eq_true rfl, iz (z2 yS zI) (v23, (2 : Int)), tr2, wa_nil (⟨[(v23, (2 : Int))], rfl, Nat.le_of_ble_eq_true rfl, ?_⟩)⟩)))))))))))
      obtain ⟨g26, h⟩ := h
      refine oy_cat g26 (⟨_, rfl, fun spoilt27 espoilt27 => ?_⟩)
      have h := h spoilt27 espoilt27
      exact hjn spoilt27 _ _ h (by and_intros) rfl
    · have h := h.2 hc
      refine kn_next ?_
      exact hjn spoilt20 _ _ h (by and_intros) rfl
  try dsimp only
  refine kn_cutW (S := (Str × Str × Bool × Bool × Bool) × (List (Str × Int))) (fun s28 => [some (zAt b), some (iz (yL (z2 yS zI)) p_law_rows_here), some (iz zI s6.1), some (iz yS s6.2.1), some (iz (z5 yS yS zB zB zB) s28.1), none, some (iz (yL (z2 yS zI)) s28.2), some (iz zI v21), some (iz yS v23)]) (fun s28 => [cBagC (((((n + 1) + 1) + 3) + 1) + 1) b l]) h (fun M hjn h => ?_) (fun s28 h => ?_)
  · refine kn_if (wt_test (we_op (we_var rfl (we_cI (ops_eqI (⟨_, rfl, ⟨fun hc => ?_, fun hc => ?_⟩⟩))))))
    · have h := h.1 hc
      refine kn_seq (kn_asgL (i := 6) (r := (yL (z2 yS zI))) (we_op (we_lstY (r := (z2 yS zI)) (wa_cons (we_tup (wa_cons (we_var rfl (wa_cons (we_cI (wa_nil (⟨Nat.le_of_ble_eq_true rfl, iz (z2 yS zI) (v23, (2 : Int)), tr2, wa_nil (⟨[(v23, (2 : Int))], rfl, Nat.le_of_ble_eq_true rfl, we_var rfl ?_⟩)⟩)))))))))))
      obtain ⟨g30, h⟩ := h
      refine oy_cat g30 (⟨_, rfl, fun spoilt31 espoilt31 => ?_⟩)
      have h := h spoilt31 espoilt31
      refine kn_nrm (Γ' := [some (zAt b), some (iz (yL (z2 yS zI)) p_law_rows_here), some (iz zI s6.1), some (iz yS s6.2.1), some (iz (z5 yS yS zB zB zB) s6.2.2), none, some (iz (yL (z2 yS zI)) spoilt31), some (iz zI v21), some (iz yS v23)]) rfl ?_
      try dsimp only
      refine kn_asgL (i := 4) (r := (z5 yS yS zB zB zB)) (we_tup (wa_cons (we_cSy (z := "BadWord") (asc_of (by decide)) (by decide) (wa_cons (we_var rfl (wa_cons (we_cB (wa_cons (we_cB (wa_cons (we_cB (wa_nil (⟨Nat.le_of_ble_eq_true rfl, iz (z5 yS yS zB zB zB) (("BadWord" : Str), v23, false, true, true), tr5, ⟨_, rfl, fun due32 edue32 => ?_⟩⟩)))))))))))))
      have h := h due32 edue32
      exact hjn (due32, spoilt31) _ _ h (by and_intros) rfl
    · have h := h.2 hc
      refine kn_next ?_
      exact hjn (s6.2.2, s24) _ _ h (by and_intros) rfl
  try dsimp only
  refine kn_ret (we_op (we_callE (wa_cons (we_var rfl (wa_nil ?_)))))
  refine sps_W0 s28.2 h (fun v33 h => ?_)
  refine we_var rfl (oy_eqEE (r := (yU (z5 yS yS zB zB zB) (z1 yS))) (s := (z5 yS yS zB zB zB)) (by decide) (by decide) ?_)
  exact hret _ h _ _ (by have hb : big = 100000 := rfl; omega) (List.mem_of_getElem? (i := 0) rfl)
abbrev s__law_values : Stmt := topS 23
theorem sc__law_values : FnScope ["_law_tally", "_law_rows_here", "_law_strange", "_law_word_here", "_law_number_here", "_law_full", "_law_row"] ["_law_tally", "_law_rows_here", "_law_strange"] (defScope s__law_values) := ⟨rfl, rfl, rfl, by decide +kernel, rfl, by decide +kernel, by decide +kernel⟩
def m__law_values (p_law_tally : ((List (Str × Int)))) (p_law_rows_here : (List (Str × Int))) (p_law_strange : Str) : DM Bool := fun Q X =>
  forD p_law_rows_here () (fun x2 s1 nx bk =>
  m_Tally___getitem__ p_law_tally x2.1 (fun v4 =>
  m__law_is_int v4 (fun v5 =>
  orD (!v5) (fun k7 => m_Tally___getitem__ p_law_tally x2.1 (fun v8 =>
  k7 (!decide (v8 = x2.2))) noX) (fun c6 =>
  ifD c6 (
  Q false) (
  m_Tally___contains__ p_law_tally x2.1 (fun v9 =>
  ifD (!decide (v9 = (!decide (x2.2 = (0 : Int))))) (
  Q false) (
  nx ())) noX))) noX) noX) (fun s1 =>
  m_Tally___getitem__ p_law_tally p_law_strange (fun v10 =>
  orD (!decide (v10 = (0 : Int))) (fun k12 => m_Tally___contains__ p_law_tally p_law_strange (fun v13 =>
  k12 v13) noX) (fun c11 =>
  ifD c11 (
  Q false) (
  ∀ full16, full16 = ((p_law_rows_here).filter fun x14 => (!decide (x14.2 = (0 : Int)))).map (fun x14 => x14) →
  m_Tally___len__ p_law_tally (fun v17 =>
  (0 ≤ v17 ∧ v17 < 9223372036854775808) ∧
  orD (!decide (v17 = ((full16).length : Int))) (fun k21 => m_Tally___abs__ p_law_tally (fun v22 =>
  k21 (!decide (v22 = (((full16).map fun x23 => (if x23.2 < 0 then -x23.2 else x23.2))).sum))) noX) (fun c20 =>
  ifD c20 (
  Q false) (
  m_Tally___bool__ p_law_tally (fun v25 =>
  Q (decide (v25 = (decide (((full16).length : Int) > (0 : Int)))))) noX))) noX))) noX)
theorem ok__law_values {k : Nat} {cs : EK → Addr} {C_Tally : Addr} (B : Bl mg) (D__law_is_int : Def P w K mg base CX0 (k + 1) "_law_is_int" ["_law_value"] (spA (preW (erW cs) (fun x : Int => [iz zI x]) zB (fun x => m__law_is_int x)))) (DM_Tally___contains__ : DefM P w K mg base CX0 (k + 1) C_Tally "__contains__" ["self", "word"] (spA (preW (erW cs) (fun x : ((List (Str × Int))) × Str => [iz (zTally C_Tally) x.1, iz yS x.2]) zB (fun x => m_Tally___contains__ x.1 x.2)))) (GF_Tally : GetFn K C_Tally) (DMk_Tally___getitem__ : DefM P w K mg base CX0 k C_Tally "__getitem__" ["self", "word"] (spA (preW (erW cs) (fun x : ((List (Str × Int))) × Str => [iz (zTally C_Tally) x.1, iz yS x.2]) zI (fun x => m_Tally___getitem__ x.1 x.2)))) (DMk_Tally___len__ : DefM P w K mg base CX0 k C_Tally "__len__" ["self"] (spA (preW (erW cs) (fun x : ((List (Str × Int))) => [iz (zTally C_Tally) x]) zI (fun x => m_Tally___len__ x)))) (DMk_Tally___abs__ : DefM P w K mg base CX0 k C_Tally "__abs__" ["self"] (spA (preW (erW cs) (fun x : ((List (Str × Int))) => [iz (zTally C_Tally) x]) zI (fun x => m_Tally___abs__ x)))) (DMk_Tally___bool__ : DefM P w K mg base CX0 k C_Tally "__bool__" ["self"] (spA (preW (erW cs) (fun x : ((List (Str × Int))) => [iz (zTally C_Tally) x]) zB (fun x => m_Tally___bool__ x))))
    (F : Src K mg "_law_values" s__law_values ["_law_tally", "_law_rows_here", "_law_strange"]) : Def P w K mg base CX0 (k + 2) "_law_values" ["_law_tally", "_law_rows_here", "_law_strange"] (spA (preW (erW cs) (fun x : ((List (Str × Int))) × (List (Str × Int)) × Str => [iz (zTally C_Tally) x.1, iz (yL (z2 yS zI)) x.2.1, iz yS x.2.2]) zB (fun x => m__law_values x.1 x.2.1 x.2.2))) := by
  refine F.okW sc__law_values (fun _ => rfl) (fun f cdv A outer s H E x Q X hr h => ⟨_, (pss_cons (ps_for PassesOwn.never rfl (kpi_list (K := K) (pv 1)) (kpg_tup (K := K) (n := 2) rfl (pgs_cons (pg_name (i := 3) sc__law_values.nd rfl (Or.inl rfl)) (pgs_cons (pg_name (i := 4) sc__law_values.nd rfl (Or.inl rfl)) pgs_nil))) (pss_cons (ps_if (PW.pt (pw_or (pt_not (pt_val (pe_def D__law_is_int hr pass0 (pa_cons (pe_ixO DMk_Tally___getitem__ GF_Tally hr passAt0 (pv 0) (pv 3) (fun _ _ => rfl)) pa_nil)))) (pw_or1 (pt_cmpR op_ne (pe_ixO DMk_Tally___getitem__ GF_Tally hr passAt0 (pv 0) (pv 3) (fun _ _ => rfl)) (pv 4) (nomark _))))) (pss_one (ps_ret pe_bl)) pss_nil)
 (pss_one (ps_if (pt_cmpR op_ne (pe_cmp (pc_inO DM_Tally___contains__ hr passAt0 (pv 3) (pv 0)) rfl) (pe_cmpR op_ne (pv 4) pe_int (nomark _)) (nomark _)) (pss_one (ps_ret pe_bl)) pss_nil))))
 (pss_cons (ps_if (PW.pt (pw_or (pt_cmpR op_ne (pe_ixO DMk_Tally___getitem__ GF_Tally hr passAt0 (pv 0) (pv 2) (fun _ _ => rfl)) pe_int (nomark _)) (pw_or1 (pt_cmp (pc_inO DM_Tally___contains__ hr passAt0 (pv 2) (pv 0)))))) (pss_one (ps_ret pe_bl)) pss_nil)
 (pss_cons (ps_setLc (i := 5) (own := [("_law_row", 6)]) (g := gName 6) (by rfl) sc__law_values.nd rfl rfl (sw_true rfl rfl rfl (by decide +kernel)) (kpi_list (K := K) (pv 1)) (blkOk_by (N := ["_law_tally", "_law_rows_here", "_law_strange", "_law_word_here", "_law_number_here", "_law_full", "_law_row"]) (sc := defScope s__law_values) (by decide +kernel)) (fun _ _ _ _ _ => (pg_name (i := 6) sc__law_values.nd rfl (Or.inl rfl))) (fun _ _ _ _ _ => pts_one (pt_cmpR op_ne (pe_ix (kix_tup (K := K)) (pv 6) pe_int (fun _ _ => rfl)) pe_int (nomark _))) (fun _ _ _ _ _ => (pv 6)))
 (pss_cons (ps_if (PW.pt (pw_or (pt_cmpR op_ne (pe_callB (call_lenO DMk_Tally___len__ hr passAt0) (by rfl) B.len PySem.boot_len (pa_cons (pv 0) pa_nil)) (pe_callB (kcall_len (K := K)) (by rfl) B.len PySem.boot_len (pa_cons (pv 5) pa_nil)) (nomark _)) (pw_or1 (pt_cmpR op_ne (pe_callB (call_absO DMk_Tally___abs__ hr passAt0) (by rfl) B.abs (by decide +kernel) (pa_cons (pv 0) pa_nil)) (pe_callB (kcr_sum (K := K) rfl) (by rfl) B.sum (by decide +kernel) (pa_cons (pe_lc (own := [("_law_row", 6)]) (g := gName 6) (by rfl) sc__law_values.nd (kpi_list (K := K) (pv 5)) (blkOk_by (N := ["_law_tally", "_law_rows_here", "_law_strange", "_law_word_here", "_law_number_here", "_law_full", "_law_row"]) (sc := defScope s__law_values) (by decide +kernel)) (fun _ _ _ _ _ => (pg_name (i := 6) sc__law_values.nd rfl (Or.inl rfl))) (fun _ _ _ _ _ => pts_nil) (fun _ _ _ _ _ => (pe_callB call_abs (by rfl) B.abs (by decide +kernel) (pa_cons (pe_ix (kix_tup (K := K)) (pv 6) pe_int (fun _ _ => rfl)) pa_nil)))) pa_nil)) (nomark _))))) (pss_one (ps_ret pe_bl)) pss_nil)
 (pss_one (ps_ret (pe_cmpR op_eq (pe_callTy (call_boolO DMk_Tally___bool__ hr passAt0) (by rfl) B.bool' (by decide +kernel) (pa_cons (pv 0) pa_nil)) (pe_cmpR op_gt (pe_callB (kcall_len (K := K)) (by rfl) B.len PySem.boot_len (pa_cons (pv 5) pa_nil)) pe_int (nomark _)) (nomark _)))))))), fun fr Qv hret => ?_⟩)
  obtain ⟨p_law_tally, p_law_rows_here, p_law_strange⟩ := x
  replace h : m__law_values p_law_tally p_law_rows_here p_law_strange Q X := h
  unfold m__law_values at h
  refine kn_seq (kn_forW (r := (z2 yS zI)) (S := Unit) (fun s1 => [some (iz (zTally C_Tally) p_law_tally), some (iz (yL (z2 yS zI)) p_law_rows_here), some (iz yS p_law_strange), none, none, none, none]) (fun s1 => []) () (wi_yL (we_var rfl (⟨_, _, _, rfl, fun e3 => ⟨_, _, _, _, _, rfl, rfl, (by and_intros), fun _ _ => tg2 (by decide), h, fun fr' le x2 s1 nx M hnx hbk h => ?_, fun s1 h => ?_⟩⟩))))
  · have hret := hret.fine le
    refine kn_seq (kn_if (wt_orC (wt_not (wt_b (we_callE (wa_cons (we_ixO (we_var rfl (we_var rfl (⟨insC_in, ?_⟩))))))))))
    refine sps_W0 (p_law_tally, x2.1) h (fun v4 h => ?_)
    refine wa_nil ?_
    refine sps_W0 v4 h (fun v5 h => ?_)
    refine ⟨_, rfl, ?_⟩
    refine orK h (fun h => ?_) (fun c6 h => ?_)
    · refine wt_test (we_op (we_ixO (we_var rfl (we_var rfl (⟨insC_in, ?_⟩)))))
      refine sps_W0 (p_law_tally, x2.1) h (fun v8 h => ?_)
      refine we_var rfl (ops_neI (⟨_, rfl, ?_⟩))
      exact ⟨rfl, h⟩
    refine ⟨fun hc => ?_, fun hc => ?_⟩
    · have h := h.1 hc
      refine kn_ret (we_cB ?_)
      exact hret _ h _
    · have h := h.2 hc
      refine kn_next ?_
      try dsimp only
      refine kn_if (wt_test (we_op (we_inO (we_var rfl (we_var rfl (⟨insC_in, ?_⟩))))))
      refine sps_W0 (p_law_tally, x2.1) h (fun v9 h => ?_)
      refine ⟨_, rfl, we_op (we_var rfl (we_cI (ops_neI (ops_neB (⟨_, rfl, ⟨fun hc => ?_, fun hc => ?_⟩⟩)))))⟩
      · have h := h.1 hc
        refine kn_ret (we_cB ?_)
        exact hret _ h _
      · have h := h.2 hc
        refine kn_next ?_
        exact hnx () _ _ h (by and_intros) rfl
  try dsimp only
  refine kn_seq (kn_if (wt_orC (wt_test (we_op (we_ixO (we_var rfl (we_var rfl (⟨insC_in, ?_⟩))))))))
  refine sps_W0 (p_law_tally, p_law_strange) h (fun v10 h => ?_)
  refine we_cI (ops_neI (⟨_, rfl, ?_⟩))
  refine orK h (fun h => ?_) (fun c11 h => ?_)
  · refine wt_test (we_inO (we_var rfl (we_var rfl (⟨insC_in, ?_⟩))))
    refine sps_W0 (p_law_tally, p_law_strange) h (fun v13 h => ?_)
    refine ⟨_, rfl, ⟨_, rfl, ?_⟩⟩
    exact ⟨rfl, h⟩
  refine ⟨fun hc => ?_, fun hc => ?_⟩
  · have h := h.1 hc
    refine kn_ret (we_cB ?_)
    exact hret _ h _
  · have h := h.2 hc
    refine kn_next ?_
    try dsimp only
    refine kn_seq (kn_asgL (i := 5) (r := (yL (z2 yS zI))) (we_lcP (r := (z2 yS zI)) (s := (z2 yS zI)) (wi_yL (we_var rfl (⟨_, _, _, rfl, fun e15 => ⟨_, fun x14 => (!decide (x14.2 = (0 : Int))), fun x14 => x14, _, rfl, rfl, e15, fun x14 => tg_name, fun x14 c => wt_test (we_op (we_op (we_var rfl (we_cI (ops_ix21 (we_cI (ops_neI (⟨_, rfl, ⟨rfl, rfl⟩⟩)))))))), fun x14 c => we_var rfl (⟨rfl, rfl⟩), ⟨_, rfl, fun full16 efull16 => ?_⟩⟩⟩)))))
    have h := h full16 efull16
    refine kn_nrm (Γ' := [some (iz (zTally C_Tally) p_law_tally), some (iz (yL (z2 yS zI)) p_law_rows_here), some (iz yS p_law_strange), none, none, some (iz (yL (z2 yS zI)) full16), none]) rfl ?_
    try dsimp only
    refine kn_seq (kn_if (wt_orC (wt_test (we_op (we_cb (wa_cons (we_var rfl (wa_nil (cb_lenO (Γ := []) insC_in ?_ ⟨[], fun _ _ _ => Paired.nil⟩)))))))))
    refine sps_W0 p_law_tally h (fun v17 h => ?_)
    obtain ⟨g18, h⟩ := h
    refine ⟨_, rfl, g18.1, g18.2, we_cb (wa_cons (we_var rfl (wa_nil (cy_len sy_L (fun e19 => (ops_neI (⟨_, rfl, ?_⟩)))))))⟩
    refine orK h (fun h => ?_) (fun c20 h => ?_)
    · refine wt_test (we_op (we_cb (wa_cons (we_var rfl (wa_nil (cb_sp1 insC_in ?_))))))
      refine sps_W0 p_law_tally h (fun v22 h => ?_)
      refine ⟨rp_T, we_cb (wa_cons (we_lcM0 (r := (z2 yS zI)) (s := zI) (wi_yL (we_var rfl (⟨_, _, _, rfl, fun e24 => ⟨_, fun x23 => (if x23.2 < 0 then -x23.2 else x23.2), _, rfl, rfl, e24, fun x23 => tg_name, fun x23 c => we_cb (wa_cons (we_op (we_var rfl (we_cI (ops_ix21 (wa_nil (cb_abs (⟨rfl, rfl⟩)))))))), wa_nil (cy_sum (ops_neI (⟨_, rfl, ?_⟩)))⟩⟩)))))⟩
      exact ⟨rfl, h⟩
    refine ⟨fun hc => ?_, fun hc => ?_⟩
    · have h := h.1 hc
      refine kn_ret (we_cB ?_)
      exact hret _ h _
    · have h := h.2 hc
      refine kn_next ?_
      try dsimp only
      refine kn_ret (we_op (we_cb (wa_cons (we_var rfl (wa_nil (cb_sp1 insC_in ?_))))))
      refine sps_W0 p_law_tally h (fun v25 h => ?_)
      refine ⟨rp_B, we_op (we_cb (wa_cons (we_var rfl (wa_nil (cy_len sy_L (fun e26 => (we_cI (ops_B0 (ops_eqB ?_)))))))))⟩
      exact hret _ h _
abbrev s__law_sorted : Stmt := topS 24
theorem sc__law_sorted : FnScope ["_law_rows_here", "_law_words", "_law_result", "_law_word_here", "_law_row"] ["_law_rows_here"] (defScope s__law_sorted) := ⟨rfl, rfl, rfl, by decide +kernel, rfl, by decide +kernel, by decide +kernel⟩
def m__law_sorted (p_law_rows_here : (List (Str × Int))) : DM (List (Str × Int)) := fun Q X =>
  sortD (((p_law_rows_here).filter fun x1 => (!decide (x1.2 = (0 : Int)))).map fun x1 => x1.1) (fun ys3 =>
  forD ys3 ([]) (fun x6 s5 nx bk =>
  forD p_law_rows_here s5 (fun x9 s8 nx bk =>
  ifD (decide (x9.1 = x6)) (
  (s8).length < big ∧
  nx (s8 ++ [(x6, x9.2)])) (
  nx s8)) (fun s8 =>
  nx s8)) (fun s5 =>
  Q s5))
theorem ok__law_sorted {k : Nat} {cs : EK → Addr} (B : Bl mg) 
    (F : Src K mg "_law_sorted" s__law_sorted ["_law_rows_here"]) : Def P w K mg base CX0 (k + 1) "_law_sorted" ["_law_rows_here"] (spA (preW (erW cs) (fun x : (List (Str × Int)) => [iz (yL (z2 yS zI)) x]) (yL (z2 yS zI)) (fun x => m__law_sorted x))) := by
  refine F.okW sc__law_sorted (fun _ => rfl) (fun f cdv A outer s H E p_law_rows_here Q X hr h => ⟨_, (pss_cons (ps_asg (pe_callB (kcr_sortedS (K := K)) (by rfl) B.sorted (by decide +kernel) (pa_cons (pe_lc (own := [("_law_row", 4)]) (g := gName 4) (by rfl) sc__law_sorted.nd (kpi_list (K := K) (pv 0)) (blkOk_by (N := ["_law_rows_here", "_law_words", "_law_result", "_law_word_here", "_law_row"]) (sc := defScope s__law_sorted) (by decide +kernel)) (fun _ _ _ _ _ => (pg_name (i := 4) sc__law_sorted.nd rfl (Or.inl rfl))) (fun _ _ _ _ _ => pts_one (pt_cmpR op_ne (pe_ix (kix_tup (K := K)) (pv 4) pe_int (fun _ _ => rfl)) pe_int (nomark _))) (fun _ _ _ _ _ => (pe_callTy SkE.call_str_str (by rfl) B.str' (by decide +kernel) (pa_cons (pe_ix (kix_tup (K := K)) (pv 4) pe_int (fun _ _ => rfl)) pa_nil)))) pa_nil)) (pg_name (i := 1) sc__law_sorted.nd rfl (Or.inl rfl)))
 (pss_cons (ps_asg (pe_lst pa_nil) (pg_name (i := 2) sc__law_sorted.nd rfl (Or.inl rfl)))
 (pss_cons (ps_for PassesOwn.never rfl (kpi_list (K := K) (pv 1)) (pg_name (i := 3) sc__law_sorted.nd rfl (Or.inl rfl)) (pss_one (ps_for PassesOwn.never rfl (kpi_list (K := K) (pv 0)) (pg_name (i := 4) sc__law_sorted.nd rfl (Or.inl rfl)) (pss_one (ps_if (pt_cmpR op_eq (pe_ix (kix_tup (K := K)) (pv 4) pe_int (fun _ _ => rfl)) (pv 3) (nomark _)) (pss_one (ps_expr (pe_bm PySem.F.plainAttrs_list PySem.F.slot_list_append PySem.F.type_list_append mt_append (pv 2) (pa_cons (pe_tup (pa_cons (pv 3) (pa_cons (pe_ix (kix_tup (K := K)) (pv 4) pe_int (fun _ _ => rfl)) pa_nil))) pa_nil)))) pss_nil)))))
 (pss_one (ps_ret (pv 2)))))), fun fr Qv hret => ?_⟩)
  replace h : m__law_sorted p_law_rows_here Q X := h
  unfold m__law_sorted at h
  refine kn_seq (kn_asg (i := 1) (we_cb (wa_cons (we_lcP (r := (z2 yS zI)) (s := yS) (wi_yL (we_var rfl (⟨_, _, _, rfl, fun e2 => ⟨_, fun x1 => (!decide (x1.2 = (0 : Int))), fun x1 => x1.1, _, rfl, rfl, e2, fun x1 => tg_name, fun x1 c => wt_test (we_op (we_op (we_var rfl (we_cI (ops_ix21 (we_cI (ops_neI (⟨_, rfl, ⟨rfl, rfl⟩⟩)))))))), fun x1 c => we_cb (wa_cons (we_op (we_var rfl (we_cI (ops_ix20 (wa_nil (cy_strS (⟨rfl, rfl⟩)))))))), wa_nil ?_⟩⟩)))))))
  refine cy_sortedS h (fun ys3 h => ?_)
  refine kn_nrm (Γ' := [some (iz (yL (z2 yS zI)) p_law_rows_here), some (iz (yL yS) ys3), none, none, none]) rfl ?_
  try dsimp only
  refine kn_seq (kn_asg (i := 2) (we_ownY (z2 yS zI) (wa_nil (⟨[], rfl, Nat.le_of_ble_eq_true rfl, fun a4 => ?_⟩))))
  refine kn_nrm (Γ' := [some (iz (yL (z2 yS zI)) p_law_rows_here), some (iz (yL yS) ys3), some (zAt a4), none, none]) rfl ?_
  try dsimp only
  refine kn_seq (kn_forW (r := yS) (S := (List (Str × Int))) (fun s5 => [some (iz (yL (z2 yS zI)) p_law_rows_here), some (iz (yL yS) ys3), some (zAt a4), none, none]) (fun s5 => [cY a4 (z2 yS zI) s5]) ([]) (wi_yL (we_var rfl (⟨_, _, _, rfl, fun e7 => ⟨_, _, _, _, _, rfl, rfl, (by and_intros), fun _ _ => tg_name, h, fun fr' le x6 s5 nx M hnx hbk h => ?_, fun s5 h => ?_⟩⟩))))
  · have hret := hret.fine le
    refine kn_forW (r := (z2 yS zI)) (S := (List (Str × Int))) (fun s8 => [some (iz (yL (z2 yS zI)) p_law_rows_here), some (iz (yL yS) ys3), some (zAt a4), some (iz yS x6), none]) (fun s8 => [cY a4 (z2 yS zI) s8]) s5 (wi_yL (we_var rfl (⟨_, _, _, rfl, fun e10 => ⟨_, _, _, _, _, rfl, rfl, (by and_intros), fun _ _ => tg_name, h, fun fr' le x9 s8 nx M hnx hbk h => ?_, fun s8 h => ?_⟩⟩)))
    · have hret := hret.fine le
      refine kn_if (wt_test (we_op (we_op (we_var rfl (we_cI (ops_ix20 (we_var rfl (oy_eqS (⟨_, rfl, ⟨fun hc => ?_, fun hc => ?_⟩⟩)))))))))
      · have h := h.1 hc
        refine kn_appY (i := 2) (j := 0) rfl rfl (we_tup (wa_cons (we_var rfl (wa_cons (we_op (we_var rfl (we_cI (ops_ix21 (wa_nil (⟨Nat.le_of_ble_eq_true rfl, iz (z2 yS zI) (x6, x9.2), tr2, ?_⟩))))))))))
        obtain ⟨g11, h⟩ := h
        refine ⟨_, rfl, rfl, g11, ?_⟩
        exact hnx (s8 ++ [(x6, x9.2)]) _ _ h (by and_intros) rfl
      · have h := h.2 hc
        refine kn_next ?_
        exact hnx s8 _ _ h (by and_intros) rfl
    exact hnx s8 _ _ h (by and_intros) rfl
  try dsimp only
  refine kn_ret (we_var rfl ?_)
  exact rt_frzY (j := 0) rfl (hret _ h _)
end
def spLaw (K : PySem.W.Frag) : Sp := fun vs H Q _ => ∃ (a : Addr) (ns : List Int), vs = [.ref a] ∧ SqL K H a (ns.map V.int) ∧ ns.length ≤ 63 ∧ ∀ H', Q (.bl true) H'
section
variable {P : Program} {w : World} {K : PySem.W.Frag} {mg : Str → Option Value} {base : Heap}
abbrev s_law : Stmt := topS 25
theorem sc_law : FnScope ["_law_script", "_law_box_here", "_law_rows_here", "_law_others", "_law_strange", "_law_passed", "_law_tally", "_law_second", "_law_told", "_law_kept", "_law_negative", "_law_dot", "_law_word_here", "_law_number_here", "_law_row"] ["_law_script"] (defScope s_law) := ⟨rfl, rfl, rfl, by decide +kernel, rfl, by decide +kernel, by decide +kernel⟩
def m_law  : DM Bool := fun Q X =>
  m__law_rows ([]) (fun v1 =>
  m__law_rows ((v1).map fun x2 => x2.1) (fun v4 =>
  (v1).length + (v4).length ≤ big ∧
  m__law_fresh (((v1 ++ v4)).map fun x5 => x5.1) (fun v8 =>
  m_Tally___init__ v1 (fun v10 =>
  m_Tally___init__ v4 (fun v11 =>
  (v1).length < big ∧
  m__law_values v10 v1 v8 (fun v13 =>
  orD (!v13) (fun k15 => m__law_values v11 v4 v8 (fun v16 =>
  k15 (!v16)) noX) (fun c14 =>
  ifD c14 (
  Q false) (
  m_Tally_rowsN v10 (fun v17 =>
  orD (!true) (fun k20 => m__law_sorted v1 (fun v21 =>
  k20 (!decide (v17 = v21))) noX) (fun c19 =>
  ifD c19 (
  Q false) (
  (v17).length < big ∧
  reprD (.list (((v17 ++ [(v8, (7 : Int))])).map (EDat.enc (r := (z2 yS zI))))) (fun z23 =>
  m_Tally___neg__ v10 (fun v24 =>
  m__law_values v24 ((v1).map fun x25 => (x25.1, (-x25.2))) v8 (fun v27 =>
  ifD (!v27) (
  Q false) (
  forD v1 (0 : Int) (fun x29 s28 nx bk =>
  compD v4 [] (fun x31 k32 =>
  ifD (decide (x31.1 = x29.1)) (CMul x29.2 x31.2 ∧
  k32 (some (x29.2 * x31.2))) (k32 none)) (fun ys33 =>
  ∀ dot37, dot37 = (s28 + (ys33).sum) →
  nx dot37)) (fun s28 =>
  m_Tally_dot v10 v11 (fun v38 =>
  m__law_is_int v38 (fun v39 =>
  orD (!v39) (fun k41 => m_Tally_dot v10 v11 (fun v42 =>
  orD (!decide (v42 = s28)) (fun k44 => m_Tally_dot v11 v10 (fun v45 =>
  k44 (!decide (v45 = s28))) noX) (fun c43 =>
  k41 c43)) noX) (fun c40 =>
  ifD c40 (
  Q false) (
  m_Tally_rows v10 (fun v46 =>
  m__law_sorted v1 (fun v47 =>
  orD (!decide (v46 = v47)) (fun k49 => m_Tally_rows v11 (fun v50 =>
  m__law_sorted v4 (fun v51 =>
  orD (!decide (v50 = v51)) (fun k53 => reprD (.list (((v17 ++ [(v8, (7 : Int))])).map (EDat.enc (r := (z2 yS zI))))) (fun z54 =>
  k53 (!decide ((z54).shown = (z23).shown)))) (fun c52 =>
  k49 c52)) noX) noX) (fun c48 =>
  ifD c48 (
  Q false) (
  m__law_values v10 v1 v8 (fun v55 =>
  andD v55 (fun k57 => m__law_wrong_list v1 (fun v58 =>
  k57 v58) noX) (fun c56 =>
  Q c56)) noX))) noX) noX))) noX) noX))) noX) noX)))) noX))) noX) noX) noX) noX) noX) noX
theorem ok_law {k : Nat} {cs : EK → Addr} {C_Tally : Addr} (B : Bl mg) (T_Tally : ClsA K mg C_Tally "Tally" ["counts"]) (D__law_rows : Def P w K mg base CX0 (k + 1) "_law_rows" ["_law_box_here", "_law_known"] (spC (preKN 600001 (preBW (fun x : (List Str) => [iz (yL yS) x]) (yL (z2 yS zI)) (fun x => m__law_rows x))))) (D__law_fresh : Def P w K mg base CX0 (k + 1) "_law_fresh" ["_law_box_here", "_law_used"] (spC (preKN 1 (preBW (fun x : (List Str) => [iz (yL yS) x]) yS (fun x => m__law_fresh x))))) (D__law_values : Def P w K mg base CX0 (k + 1) "_law_values" ["_law_tally", "_law_rows_here", "_law_strange"] (spA (preW (erW cs) (fun x : ((List (Str × Int))) × (List (Str × Int)) × Str => [iz (zTally C_Tally) x.1, iz (yL (z2 yS zI)) x.2.1, iz yS x.2.2]) zB (fun x => m__law_values x.1 x.2.1 x.2.2)))) (D__law_sorted : Def P w K mg base CX0 (k + 1) "_law_sorted" ["_law_rows_here"] (spA (preW (erW cs) (fun x : (List (Str × Int)) => [iz (yL (z2 yS zI)) x]) (yL (z2 yS zI)) (fun x => m__law_sorted x)))) (D__law_is_int : Def P w K mg base CX0 (k + 1) "_law_is_int" ["_law_value"] (spA (preW (erW cs) (fun x : Int => [iz zI x]) zB (fun x => m__law_is_int x)))) (D__law_wrong_list : Def P w K mg base CX0 (k + 1) "_law_wrong_list" ["_law_box_here", "_law_rows_here"] (spC (preKN 7 (preBW (fun x : (List (Str × Int)) => [iz (yL (z2 yS zI)) x]) zB (fun x => m__law_wrong_list x))))) (DM_Tally_rowsN : DefM P w K mg base CX0 (k + 1) C_Tally "rows" ["self"] (spN (preNW (erW cs) (fun x : ((List (Str × Int))) => [iz (zTally C_Tally) x]) (fun (_ : (List (Str × Int))) as => zAt (ad as 0)) (fun (y : (List (Str × Int))) as => [cY (ad as 0) (z2 yS zI) y]) (fun x => m_Tally_rowsN x)))) (DM_Tally___neg__ : DefM P w K mg base (L2.CX P w) (k + 1) C_Tally "__neg__" ["self"] (spA (preW (erW cs) (fun x : ((List (Str × Int))) => [iz (zTally C_Tally) x]) (zTally C_Tally) (fun x => m_Tally___neg__ x)))) (DM_Tally_dot : DefM P w K mg base CX0 (k + 1) C_Tally "dot" ["self", "other"] (spA (preW (erW cs) (fun x : ((List (Str × Int))) × ((List (Str × Int))) => [iz (zTally C_Tally) x.1, iz (zTally C_Tally) x.2]) zI (fun x => m_Tally_dot x.1 x.2)))) (DM_Tally_rows : DefM P w K mg base CX0 (k + 1) C_Tally "rows" ["self"] (spA (preW (erW cs) (fun x : ((List (Str × Int))) => [iz (zTally C_Tally) x]) (yL (z2 yS zI)) (fun x => m_Tally_rows x)))) (NB_repr : mg "repr" = none) (m_Tally : mg "Tally" = some (.ref C_Tally)) (DI_Tally : DefI P w K mg base (L2.CX P w) k C_Tally ["self", "rows"] (spI C_Tally (preW (erW cs) (fun x : (List (Str × Int)) => [iz (yL (z2 yS zI)) x]) (zTally C_Tally) (fun x => m_Tally___init__ x)))) (D__law_box : Def P w K mg base CX0 (k + 1) "_law_box" ["_law_script"] (spN (preBagC K)))
    {f : Addr} {fd : FuncData} (F : Fun K "law" "law" s_law f fd) (hm : m_law (· = true) noX) : FnG P w K mg base (k + 2) f fd ["_law_script"] (spLaw K) := by
  refine F.okG sc_law (fun vs H Q E h => ?_) (fun cdv A outer s H vs Q E hg hr h => ?_)
  · obtain ⟨a, ns, rfl, _⟩ := h
    rfl
  obtain ⟨a, ns, rfl, hS, hlen, q⟩ := h
  refine ⟨_, (pss_cons (ps_asg (pe_def D__law_box hr pass0 (pa_cons (pv 0) pa_nil)) (pg_name (i := 1) sc_law.nd rfl (Or.inl rfl)))
 (pss_cons (ps_asg (pe_def D__law_rows hr pass0 (pa_cons (pv 1) (pa_cons (pe_lst pa_nil) pa_nil))) (pg_name (i := 2) sc_law.nd rfl (Or.inl rfl)))
 (pss_cons (ps_asg (pe_def D__law_rows hr pass0 (pa_cons (pv 1) (pa_cons (pe_lc (own := [("_law_row", 14)]) (g := gName 14) (by rfl) sc_law.nd (kpi_list (K := K) (pv 2)) (blkOk_by (N := ["_law_script", "_law_box_here", "_law_rows_here", "_law_others", "_law_strange", "_law_passed", "_law_tally", "_law_second", "_law_told", "_law_kept", "_law_negative", "_law_dot", "_law_word_here", "_law_number_here", "_law_row"]) (sc := defScope s_law) (by decide +kernel)) (fun _ _ _ _ _ => (pg_name (i := 14) sc_law.nd rfl (Or.inl rfl))) (fun _ _ _ _ _ => pts_nil) (fun _ _ _ _ _ => (pe_ix (kix_tup (K := K)) (pv 14) pe_int (fun _ _ => rfl)))) pa_nil))) (pg_name (i := 3) sc_law.nd rfl (Or.inl rfl)))
 (pss_cons (ps_asg (pe_def D__law_fresh hr pass0 (pa_cons (pv 1) (pa_cons (pe_lc (own := [("_law_row", 14)]) (g := gName 14) (by rfl) sc_law.nd (kpi_list (K := K) (pe_op op_cat (pv 2) (pv 3))) (blkOk_by (N := ["_law_script", "_law_box_here", "_law_rows_here", "_law_others", "_law_strange", "_law_passed", "_law_tally", "_law_second", "_law_told", "_law_kept", "_law_negative", "_law_dot", "_law_word_here", "_law_number_here", "_law_row"]) (sc := defScope s_law) (by decide +kernel)) (fun _ _ _ _ _ => (pg_name (i := 14) sc_law.nd rfl (Or.inl rfl))) (fun _ _ _ _ _ => pts_nil) (fun _ _ _ _ _ => (pe_ix (kix_tup (K := K)) (pv 14) pe_int (fun _ _ => rfl)))) pa_nil))) (pg_name (i := 4) sc_law.nd rfl (Or.inl rfl)))
 (pss_cons (ps_asg (pe_callTy (kcall_list (K := K)) (by rfl) B.list' (by decide +kernel) (pa_cons (pv 2) pa_nil)) (pg_name (i := 5) sc_law.nd rfl (Or.inl rfl)))
 (pss_cons (ps_asg (pe_mkD DI_Tally m_Tally hr (fun σ => Passes.at passL σ) (pa_cons (pv 5) pa_nil)) (pg_name (i := 6) sc_law.nd rfl (Or.inl rfl)))
 (pss_cons (ps_asg (pe_mkD DI_Tally m_Tally hr (fun σ => Passes.at passL σ) (pa_cons (pe_callTy (kcall_list (K := K)) (by rfl) B.list' (by decide +kernel) (pa_cons (pv 3) pa_nil)) pa_nil)) (pg_name (i := 7) sc_law.nd rfl (Or.inl rfl)))
 (pss_cons (ps_expr (pe_bm PySem.F.plainAttrs_list PySem.F.slot_list_append PySem.F.type_list_append mt_append (pv 5) (pa_cons (pe_tup (pa_cons (pv 4) (pa_cons pe_int pa_nil))) pa_nil)))
 (pss_cons (ps_if (PW.pt (pw_or (pt_not (pt_val (pe_def D__law_values hr pass0 (pa_cons (pv 6) (pa_cons (pv 2) (pa_cons (pv 4) pa_nil)))))) (pw_or1 (pt_not (pt_val (pe_def D__law_values hr pass0 (pa_cons (pv 7) (pa_cons (pv 3) (pa_cons (pv 4) pa_nil))))))))) (pss_one (ps_ret pe_bl)) pss_nil)
 (pss_cons (ps_asg (pe_metD0 DM_Tally_rowsN T_Tally.cl hr passAt0 (pv 6)) (pg_name (i := 8) sc_law.nd rfl (Or.inl rfl)))
 (pss_cons (ps_if (PW.pt (pw_or (pt_not (pt_val (pe_callB (kcall_isi (K := K)) (by rfl) B.isinstance (by decide +kernel) (pa_cons (pv 8) (pa_cons (pe_bltn (v := .ty "list") (by rfl) B.list' (by decide +kernel) rfl) pa_nil))))) (pw_or1 (pt_cmpR (kop_neD (K := K) hr.units) (pv 8) (pe_def D__law_sorted hr pass0 (pa_cons (pv 2) pa_nil)) (nomark _))))) (pss_one (ps_ret pe_bl)) pss_nil)
 (pss_cons (ps_expr (pe_bm PySem.F.plainAttrs_list PySem.F.slot_list_append PySem.F.type_list_append mt_append (pv 8) (pa_cons (pe_tup (pa_cons (pv 4) (pa_cons pe_int pa_nil))) pa_nil)))
 (pss_cons (ps_asg (pe_callB (call_reprD (K := K) hg (un65 hr)) (by rfl) NB_repr (by decide +kernel) (pa_cons (pv 8) pa_nil)) (pg_name (i := 9) sc_law.nd rfl (Or.inl rfl)))
 (pss_cons (ps_asg (pe_neg2 DM_Tally___neg__ hr (fun σ => Passes.at passL σ) (pv 6)) (pg_name (i := 10) sc_law.nd rfl (Or.inl rfl)))
 (pss_cons (ps_if (pt_not (pt_val (pe_def D__law_values hr pass0 (pa_cons (pv 10) (pa_cons (pe_lc (own := [("_law_row", 14)]) (g := gName 14) (by rfl) sc_law.nd (kpi_list (K := K) (pv 2)) (blkOk_by (N := ["_law_script", "_law_box_here", "_law_rows_here", "_law_others", "_law_strange", "_law_passed", "_law_tally", "_law_second", "_law_told", "_law_kept", "_law_negative", "_law_dot", "_law_word_here", "_law_number_here", "_law_row"]) (sc := defScope s_law) (by decide +kernel)) (fun _ _ _ _ _ => (pg_name (i := 14) sc_law.nd rfl (Or.inl rfl))) (fun _ _ _ _ _ => pts_nil) (fun _ _ _ _ _ => (pe_tup (pa_cons (pe_ix (kix_tup (K := K)) (pv 14) pe_int (fun _ _ => rfl)) (pa_cons (pe_un un_neg (pe_ix (kix_tup (K := K)) (pv 14) pe_int (fun _ _ => rfl))) pa_nil))))) (pa_cons (pv 4) pa_nil)))))) (pss_one (ps_ret pe_bl)) pss_nil)
 (pss_cons (ps_asg pe_int (pg_name (i := 11) sc_law.nd rfl (Or.inl rfl)))
 (pss_cons (ps_for PassesOwn.never rfl (kpi_list (K := K) (pv 2)) (kpg_tup (K := K) (n := 2) rfl (pgs_cons (pg_name (i := 12) sc_law.nd rfl (Or.inr rfl)) (pgs_cons (pg_name (i := 13) sc_law.nd rfl (Or.inr rfl)) pgs_nil))) (pss_one (ps_asg (pe_op op_add (pv 11) (pe_callB (kcr_sum (K := K) rfl) (by rfl) B.sum (by decide +kernel) (pa_cons (pe_lc (own := [("_law_row", 14)]) (g := gName 14) (by rfl) sc_law.nd (kpi_list (K := K) (pv 3)) (blkOk_by (N := ["_law_script", "_law_box_here", "_law_rows_here", "_law_others", "_law_strange", "_law_passed", "_law_tally", "_law_second", "_law_told", "_law_kept", "_law_negative", "_law_dot", "_law_word_here", "_law_number_here", "_law_row"]) (sc := defScope s_law) (by decide +kernel)) (fun _ _ _ _ _ => (pg_name (i := 14) sc_law.nd rfl (Or.inl rfl))) (fun _ _ _ _ _ => pts_one (pt_cmpR op_eq (pe_ix (kix_tup (K := K)) (pv 14) pe_int (fun _ _ => rfl)) (pv 12) (nomark _))) (fun _ _ _ _ _ => (pe_op op_mul (pv 13) (pe_ix (kix_tup (K := K)) (pv 14) pe_int (fun _ _ => rfl))))) pa_nil))) (pg_name (i := 11) sc_law.nd rfl (Or.inl rfl)))))
 (pss_cons (ps_if (PW.pt (pw_or (pt_not (pt_val (pe_def D__law_is_int hr pass0 (pa_cons (pe_metD DM_Tally_dot T_Tally.cl hr passAt0 (pv 6) (pa_cons (pv 7) pa_nil)) pa_nil)))) (pw_or (pt_cmpR op_ne (pe_metD DM_Tally_dot T_Tally.cl hr passAt0 (pv 6) (pa_cons (pv 7) pa_nil)) (pv 11) (nomark _)) (pw_or1 (pt_cmpR op_ne (pe_metD DM_Tally_dot T_Tally.cl hr passAt0 (pv 7) (pa_cons (pv 6) pa_nil)) (pv 11) (nomark _)))))) (pss_one (ps_ret pe_bl)) pss_nil)
 (pss_cons (ps_if (PW.pt (pw_or (pt_cmpR (kop_neD (K := K) hr.units) (pe_metD0 DM_Tally_rows T_Tally.cl hr passAt0 (pv 6)) (pe_def D__law_sorted hr pass0 (pa_cons (pv 2) pa_nil)) (nomark _)) (pw_or (pt_cmpR (kop_neD (K := K) hr.units) (pe_metD0 DM_Tally_rows T_Tally.cl hr passAt0 (pv 7)) (pe_def D__law_sorted hr pass0 (pa_cons (pv 3) pa_nil)) (nomark _)) (pw_or1 (pt_cmpR op_ne (pe_callB (call_reprD (K := K) hg (un65 hr)) (by rfl) NB_repr (by decide +kernel) (pa_cons (pv 8) pa_nil)) (pv 9) (nomark _)))))) (pss_one (ps_ret pe_bl)) pss_nil)
 (pss_one (ps_ret (pe_and (pe_def D__law_values hr pass0 (pa_cons (pv 6) (pa_cons (pv 2) (pa_cons (pv 4) pa_nil)))) (pe_one (pe_def D__law_wrong_list hr pass0 (pa_cons (pv 1) (pa_cons (pv 2) pa_nil)))))))))))))))))))))))))), ?_⟩
  have hret : ∀ {fr : L2.Fr} {Θ : List Cel} (c : Bool), c = true → Rt fr Θ Q (iz zB c) := fun {fr Θ} c hc v F' H' ok hv => by
    subst hc
    have hv : v = .bl true := hv
    subst hv
    exact q H'
  refine (?_ : ∀ fr, Kn fr (L2.envOf _ [iz (zScr K) ns]) [] _) ⟨H, H, []⟩ _ H H (OkF.start (Same.refl H)) (env_start (.cons ⟨a, rfl, hS, hlen⟩ .nil))
  intro fr
  refine kn_seq (kn_asg (we_callE (wa_cons (we_var rfl (wa_nil ?_)))))
  refine sps_N ⟨ns, rfl, rfl, rfl⟩ (fun p Θn ⟨b, l, e1, e2⟩ => ?_) (fun e he => he.elim)
  subst e1 e2
  try dsimp only
  have h := hm
  unfold m_law at h
  have hN : 0 + 1200010 ≤ LIM := by decide
  refine kn_seq (kn_asg (i := 2) (we_callE (wa_cons (we_var rfl (wa_cons (we_lstY (r := yS) (wa_nil (⟨[], rfl, Nat.le_of_ble_eq_true rfl, wa_nil ?_⟩))))))))
  refine sps_KN (j := 0) rfl (by have hb : big = 100000 := rfl; omega) [] h (fun v1 h => ?_)
  try dsimp only [List.set]
  try dsimp only
  refine kn_seq (kn_asg (i := 3) (we_callE (wa_cons (we_var rfl (wa_cons (we_lcM0 (r := (z2 yS zI)) (s := yS) (wi_yL (we_var rfl (⟨_, _, _, rfl, fun e3 => ⟨_, fun x2 => x2.1, _, rfl, rfl, e3, fun x2 => tg_name, fun x2 c => we_op (we_var rfl (we_cI (ops_ix20 (⟨rfl, rfl⟩)))), wa_nil ?_⟩⟩)))))))))
  refine sps_KN (j := 0) rfl (by have hb : big = 100000 := rfl; omega) ((v1).map fun x2 => x2.1) h (fun v4 h => ?_)
  try dsimp only [List.set]
  try dsimp only
  refine kn_seq (kn_asg (i := 4) (we_callE (wa_cons (we_var rfl (wa_cons (we_lcM0 (r := (z2 yS zI)) (s := yS) (wi_yL (we_op (we_var rfl (we_var rfl ?_))))))))))
  obtain ⟨g6, h⟩ := h
  refine oy_cat g6 (⟨_, _, _, rfl, fun e7 => ⟨_, fun x5 => x5.1, _, rfl, rfl, e7, fun x5 => tg_name, fun x5 c => we_op (we_var rfl (we_cI (ops_ix20 (⟨rfl, rfl⟩)))), wa_nil ?_⟩⟩)
  refine sps_KN (j := 0) rfl (by have hb : big = 100000 := rfl; omega) (((v1 ++ v4)).map fun x5 => x5.1) h (fun v8 h => ?_)
  try dsimp only [List.set]
  try dsimp only
  refine kn_seq (kn_asg (i := 5) (we_cb (wa_cons (we_var rfl (wa_nil (cy_listO sy_L (fun a9 => ?_)))))))
  try dsimp only
  refine kn_seq (kn_asg (i := 6) (we_lendN (Γ' := [none, some (zAt b), some (iz (yL (z2 yS zI)) v1), some (iz (yL (z2 yS zI)) v4), some (iz yS v8), some (iz (yL (z2 yS zI)) v1), none, none, none, none, none, none, none, none, none]) (fun c hc => by simp only [List.set_cons_zero, List.set_cons_succ, List.cons_append, List.nil_append, List.append_nil, List.mem_cons, List.not_mem_nil, or_false] at hc; rcases hc with rfl | rfl <;> exact ⟨rfl, fun F o q => by first | exact lst_Y q | exact lst_bagC q⟩) (env_lend (.cons (.inl rfl) (.cons (.inr (.inl rfl)) (.cons (.inr (.inl rfl)) (.cons (.inr (.inl rfl)) (.cons (.inr (.inl rfl)) (.cons (.inr (.inr ⟨_, _, rfl, rfl, fun F Fl hl v h => hl.lst (j := 0) rfl h⟩)) (.cons (.inl rfl) (.cons (.inl rfl) (.cons (.inl rfl) (.cons (.inl rfl) (.cons (.inl rfl) (.cons (.inl rfl) (.cons (.inl rfl) (.cons (.inl rfl) (.cons (.inl rfl) (.nil))))))))))))))))) (we_mkP (wa_cons (we_var rfl (wa_nil ?_))))))
  refine mkW0 v1 h (fun v10 h => ?_)
  refine ⟨rfl, fun _ _ _ e q => nol_in1 e q, ?_⟩
  try dsimp only
  refine kn_seq (kn_asg (i := 7) (we_mkP (wa_cons (we_cb (wa_cons (we_var rfl (wa_nil (cy_list sy_L (wa_nil ?_)))))))))
  refine mkW0 v4 h (fun v11 h => ?_)
  try dsimp only
  refine kn_seq (kn_appY (i := 5) (j := 0) rfl rfl (we_tup (wa_cons (we_var rfl (wa_cons (we_cI (wa_nil (⟨Nat.le_of_ble_eq_true rfl, iz (z2 yS zI) (v8, (5 : Int)), tr2, ?_⟩))))))))
  obtain ⟨g12, h⟩ := h
  refine ⟨_, rfl, rfl, g12, ?_⟩
  try dsimp only
  refine kn_seq (kn_if (wt_orC (wt_not (wt_b (we_callE (wa_cons (we_var rfl (wa_cons (we_var rfl (wa_cons (we_var rfl (wa_nil ?_))))))))))))
  refine sps_W0 (v10, v1, v8) h (fun v13 h => ?_)
  refine ⟨_, rfl, ?_⟩
  refine orK h (fun h => ?_) (fun c14 h => ?_)
  · refine wt_not (wt_b (we_callE (wa_cons (we_var rfl (wa_cons (we_var rfl (wa_cons (we_var rfl (wa_nil ?_)))))))))
    refine sps_W0 (v11, v4, v8) h (fun v16 h => ?_)
    refine ⟨_, rfl, ?_⟩
    exact ⟨rfl, h⟩
  refine ⟨fun hc => ?_, fun hc => ?_⟩
  · have h := h.1 hc
    refine kn_ret (we_cB ?_)
    exact hret _ h
  · have h := h.2 hc
    refine kn_next ?_
    try dsimp only
    refine kn_seq (kn_asg (i := 8) (we_met (we_var rfl (⟨ins_in rfl, wa_nil ?_⟩))))
    refine sps_NW0 v10 h (fun v17 as18 h => ?_)
    try dsimp only
    refine kn_seq (kn_if (wt_orC (wt_not (wt_b (we_lend (Γ' := [none, some (zAt b), some (iz (yL (z2 yS zI)) v1), some (iz (yL (z2 yS zI)) v4), some (iz yS v8), some (zAt a9), some (iz (zTally C_Tally) v10), some (iz (zTally C_Tally) v11), some (iz (yL (z2 yS zI)) v17), none, none, none, none, none, none]) (fun c hc => by simp only [List.set_cons_zero, List.set_cons_succ, List.cons_append, List.nil_append, List.append_nil, List.mem_cons, List.not_mem_nil, or_false] at hc; rcases hc with rfl | rfl | rfl <;> rfl) (env_lend (.cons (.inl rfl) (.cons (.inr (.inl rfl)) (.cons (.inr (.inl rfl)) (.cons (.inr (.inl rfl)) (.cons (.inr (.inl rfl)) (.cons (.inr (.inl rfl)) (.cons (.inr (.inl rfl)) (.cons (.inr (.inl rfl)) (.cons (.inr (.inr ⟨_, _, rfl, rfl, fun F Fl hl v h => hl.lst (j := 0) rfl h⟩)) (.cons (.inl rfl) (.cons (.inl rfl) (.cons (.inl rfl) (.cons (.inl rfl) (.cons (.inl rfl) (.cons (.inl rfl) (.nil))))))))))))))))) (we_cb (wa_cons (we_var rfl (wa_cons (we_cT (wa_nil (cb_isi ty_yL (show kitB "list" "list" = some true by decide +kernel) (⟨rfl, _, rfl, ⟨_, rfl, ?_⟩⟩)))))))))))))
    refine orK h (fun h => ?_) (fun c19 h => ?_)
    · refine wt_test (we_lend (Γ' := [none, some (zAt b), some (iz (yL (z2 yS zI)) v1), some (iz (yL (z2 yS zI)) v4), some (iz yS v8), some (zAt a9), some (iz (zTally C_Tally) v10), some (iz (zTally C_Tally) v11), some (iz (yL (z2 yS zI)) v17), none, none, none, none, none, none]) (fun c hc => by simp only [List.set_cons_zero, List.set_cons_succ, List.cons_append, List.nil_append, List.append_nil, List.mem_cons, List.not_mem_nil, or_false] at hc; rcases hc with rfl | rfl | rfl <;> rfl) (env_lend (.cons (.inl rfl) (.cons (.inr (.inl rfl)) (.cons (.inr (.inl rfl)) (.cons (.inr (.inl rfl)) (.cons (.inr (.inl rfl)) (.cons (.inr (.inl rfl)) (.cons (.inr (.inl rfl)) (.cons (.inr (.inl rfl)) (.cons (.inr (.inr ⟨_, _, rfl, rfl, fun F Fl hl v h => hl.lst (j := 0) rfl h⟩)) (.cons (.inl rfl) (.cons (.inl rfl) (.cons (.inl rfl) (.cons (.inl rfl) (.cons (.inl rfl) (.cons (.inl rfl) (.nil))))))))))))))))) (we_op (we_var rfl (we_callE (wa_cons (we_var rfl (wa_nil ?_)))))))
      refine sps_W0 v1 h (fun v21 h => ?_)
      refine ops_neD (r := (yL (z2 yS zI))) (by decide) (⟨rfl, _, rfl, ⟨_, rfl, ?_⟩⟩)
      exact ⟨rfl, h⟩
    refine ⟨fun hc => ?_, fun hc => ?_⟩
    · have h := h.1 hc
      refine kn_ret (we_cB ?_)
      exact hret _ h
    · have h := h.2 hc
      refine kn_next ?_
      try dsimp only
      refine kn_seq (kn_appY (i := 8) (j := 0) rfl rfl (we_tup (wa_cons (we_var rfl (wa_cons (we_cI (wa_nil (⟨Nat.le_of_ble_eq_true rfl, iz (z2 yS zI) (v8, (7 : Int)), tr2, ?_⟩))))))))
      obtain ⟨g22, h⟩ := h
      refine ⟨_, rfl, rfl, g22, ?_⟩
      try dsimp only
      refine kn_seq (kn_asg (i := 9) (we_cb (wa_cons (we_var rfl (wa_nil ?_)))))
      refine cy_reprC (j := 0) rfl h (fun z23 h => ?_)
      try dsimp only
      refine kn_seq (kn_asg (i := 10) (we_sp1 (we_var rfl (⟨insC_in, ?_⟩))))
      refine sps_W0 v10 h (fun v24 h => ?_)
      try dsimp only
      refine kn_seq (kn_if (wt_not (wt_b (we_callE (wa_cons (we_var rfl (wa_cons (we_lcM0 (r := (z2 yS zI)) (s := (z2 yS zI)) (wi_yL (we_var rfl (⟨_, _, _, rfl, fun e26 => ⟨_, fun x25 => (x25.1, (-x25.2)), _, rfl, rfl, e26, fun x25 => tg_name, fun x25 c => we_tup (wa_cons (we_op (we_var rfl (we_cI (ops_ix20 (wa_cons (we_un (we_op (we_var rfl (we_cI (ops_ix21 (uns_I (wa_nil (⟨Nat.le_of_ble_eq_true rfl, iz (z2 yS zI) (x25.1, (-x25.2)), tr2, ⟨rfl, rfl⟩⟩)))))))))))))), wa_cons (we_var rfl (wa_nil ?_))⟩⟩)))))))))))
      refine sps_W0 (v24, ((v1).map fun x25 => (x25.1, (-x25.2))), v8) h (fun v27 h => ?_)
      refine ⟨_, rfl, ⟨fun hc => ?_, fun hc => ?_⟩⟩
      · have h := h.1 hc
        refine kn_ret (we_cB ?_)
        exact hret _ h
      · have h := h.2 hc
        refine kn_next ?_
        try dsimp only
        refine kn_seq (kn_asg (i := 11) (we_cI ?_))
        try dsimp only
        refine kn_seq (kn_forW (r := (z2 yS zI)) (S := Int) (fun s28 => [none, some (zAt b), some (iz (yL (z2 yS zI)) v1), some (iz (yL (z2 yS zI)) v4), some (iz yS v8), some (zAt a9), some (iz (zTally C_Tally) v10), some (iz (zTally C_Tally) v11), some (zAt (ad as18 0)), some (iz yR z23), some (iz (zTally C_Tally) v24), some (iz zI s28), none, none, none]) (fun s28 => [cY (ad as18 0) (z2 yS zI) (v17 ++ [(v8, (7 : Int))]), cY a9 (z2 yS zI) (v1 ++ [(v8, (5 : Int))]), cBagC (((0 + 600001) + 600001) + 1) b l]) (0 : Int) (wi_yL (we_var rfl (⟨_, _, _, rfl, fun e30 => ⟨_, _, _, _, _, rfl, rfl, (by and_intros), fun _ _ => tg2 (by decide), h, fun fr' le x29 s28 nx M hnx hbk h => ?_, fun s28 h => ?_⟩⟩))))
        · refine kn_asgL (i := 11) (r := zI) (we_op (we_var rfl (we_cb (wa_cons (we_lcW (r := (z2 yS zI)) (s := zI) (wi_yL (we_var rfl (⟨_, _, _, rfl, fun e34 => ⟨_, _, _, _, rfl, rfl, e34, fun _ => tg_name, h, fun x31 c k32 h => ?_, fun ys33 h eys33 => ?_⟩⟩))))))))
          · refine wt_test (we_op (we_op (we_var rfl (we_cI (ops_ix20 (we_var rfl (oy_eqS (⟨_, rfl, ⟨fun hc => ?_, fun hc => ⟨rfl, h.2 hc⟩⟩⟩))))))))
            have h := h.1 hc
            refine we_op (we_var rfl (we_op (we_var rfl (we_cI (ops_ix21 ?_)))))
            obtain ⟨g36, h⟩ := h
            refine ops_IC g36 ?_
            exact ⟨rfl, _, rfl, h⟩
          refine wa_nil (cy_sum (ops_I0 (⟨_, rfl, fun dot37 edot37 => ?_⟩)))
          have h := h dot37 edot37
          exact hnx dot37 _ _ h (by and_intros) rfl
        try dsimp only
        refine kn_seq (kn_if (wt_orC (wt_not (wt_b (we_callE (wa_cons (we_met (we_var rfl (⟨ins_in rfl, wa_cons (we_var rfl (wa_nil ?_))⟩)))))))))
        refine sps_W0 (v10, v11) h (fun v38 h => ?_)
        refine wa_nil ?_
        refine sps_W0 v38 h (fun v39 h => ?_)
        refine ⟨_, rfl, ?_⟩
        refine orK h (fun h => ?_) (fun c40 h => ?_)
        · refine wt_orC (wt_test (we_op (we_met (we_var rfl (⟨ins_in rfl, wa_cons (we_var rfl (wa_nil ?_))⟩)))))
          refine sps_W0 (v10, v11) h (fun v42 h => ?_)
          refine we_var rfl (ops_neI (⟨_, rfl, ?_⟩))
          refine orK h (fun h => ?_) (fun c43 h => ?_)
          · refine wt_test (we_op (we_met (we_var rfl (⟨ins_in rfl, wa_cons (we_var rfl (wa_nil ?_))⟩))))
            refine sps_W0 (v11, v10) h (fun v45 h => ?_)
            refine we_var rfl (ops_neI (⟨_, rfl, ?_⟩))
            exact ⟨rfl, h⟩
          exact ⟨rfl, h⟩
        refine ⟨fun hc => ?_, fun hc => ?_⟩
        · have h := h.1 hc
          refine kn_ret (we_cB ?_)
          exact hret _ h
        · have h := h.2 hc
          refine kn_next ?_
          try dsimp only
          refine kn_seq (kn_if (wt_orC (wt_test (we_op (we_met (we_var rfl (⟨ins_in rfl, wa_nil ?_⟩)))))))
          refine sps_W0 v10 h (fun v46 h => ?_)
          refine we_callE (wa_cons (we_var rfl (wa_nil ?_)))
          refine sps_W0 v1 h (fun v47 h => ?_)
          refine ops_neD (r := (yL (z2 yS zI))) (by decide) (⟨_, rfl, ?_⟩)
          refine orK h (fun h => ?_) (fun c48 h => ?_)
          · refine wt_orC (wt_test (we_op (we_met (we_var rfl (⟨ins_in rfl, wa_nil ?_⟩)))))
            refine sps_W0 v11 h (fun v50 h => ?_)
            refine we_callE (wa_cons (we_var rfl (wa_nil ?_)))
            refine sps_W0 v4 h (fun v51 h => ?_)
            refine ops_neD (r := (yL (z2 yS zI))) (by decide) (⟨_, rfl, ?_⟩)
            refine orK h (fun h => ?_) (fun c52 h => ?_)
            · refine wt_test (we_op (we_cb (wa_cons (we_var rfl (wa_nil ?_)))))
              refine cy_reprC (j := 0) rfl h (fun z54 h => ?_)
              refine we_var rfl (oy_neR (⟨_, rfl, ?_⟩))
              exact ⟨rfl, h⟩
            exact ⟨rfl, h⟩
          refine ⟨fun hc => ?_, fun hc => ?_⟩
          · have h := h.1 hc
            refine kn_ret (we_cB ?_)
            exact hret _ h
          · have h := h.2 hc
            refine kn_next ?_
            try dsimp only
            refine kn_ret (we_andCB (we_callE (wa_cons (we_var rfl (wa_cons (we_var rfl (wa_cons (we_var rfl (wa_nil ?_)))))))))
            refine sps_W0 (v10, v1, v8) h (fun v55 h => ?_)
            refine andKvB (Θ2 := [cY (ad as18 0) (z2 yS zI) (v17 ++ [(v8, (7 : Int))]), cY a9 (z2 yS zI) (v1 ++ [(v8, (5 : Int))]), cBagC ((((0 + 600001) + 600001) + 1) + 7) b l]) (.cons (.refl _) (.cons (.refl _) (.cons (.bag (by have hb : big = 100000 := rfl; omega)) (.nil)))) h (fun h => ?_) (fun c56 h => ?_)
            · refine we_callE (wa_cons (we_var rfl (wa_cons (we_var rfl (wa_nil ?_)))))
              refine sps_KN (j := 2) rfl (by have hb : big = 100000 := rfl; omega) v1 h (fun v58 h => ?_)
              try dsimp only [List.set]
              exact ⟨rfl, _, rfl, h⟩
            exact hret _ h
end
section
theorem draw_ok {m : Int} {Q : Int → Prop} {X : HE → Prop} (h0 : 0 < m) (h1 : m ≤ 10 ^ 40) (h : ∀ n : Nat, (n : Int) < m → Q n) : m_draw m Q X := ⟨h0, h1, fun n n0 n1 => by
  obtain ⟨j, rfl⟩ : ∃ j : Nat, n = j := ⟨n.toNat, by omega⟩
  exact h j n1⟩
theorem pos_of_ne {α : Type} {l : List α} (h : l ≠ []) : 0 < l.length := by
  cases l with
  | nil => exact absurd rfl h
  | cons a l => exact Nat.succ_pos _
theorem lt_big {n : Nat} (h : n < 1000) : n < big := Nat.lt_trans h (by decide)
def SIG : List Nat := (("abcdefghijklmnopqrstuvwxyz0123456789" : Str)).cps.toList
theorem sig_len : SIG.length = 36 := by decide +kernel
theorem sig26 : ∀ j : Nat, j < 26 → (decide (SIG.getD j 0 ∈ LETTERS.cps.toList) && okc (SIG.getD j 0)) = true := by decide +kernel
theorem sig36 : ∀ j : Nat, j < 36 → okc (SIG.getD j 0) = true := by decide +kernel
theorem sig_at {j : Nat} (h : j < 36) : atI SIG (j : Int) = some (SIG.getD j 0) := by
  refine atI_nat ?_
  have : j < SIG.length := by rw [sig_len]; exact h
  rw [List.getD_eq_getElem?_getD, List.getElem?_eq_getElem this]
  rfl
theorem len_app (a b : Str) : (a ++ b).length = a.length + b.length := by
  show (a.cps ++ b.cps : Array Nat).size = _
  rw [Array.size_append]
  rfl
theorem cps_app (a b : Str) : (a ++ b).cps.toList = a.cps.toList ++ b.cps.toList := by
  show (a.cps ++ b.cps : Array Nat).toList = _
  simp
/-- the beginning of a word -/
structure Stem (n : Nat) (z : Str) : Prop where
  len : z.length ≤ n
  ex : ∃ c r, z.cps.toList = c :: r ∧ c ∈ LETTERS.cps.toList ∧ ∀ d ∈ c :: r, okc d = true
theorem Stem.app {n m : Nat} {z y : Str} (h : Stem n z) (hy : ∀ d ∈ y.cps.toList, okc d = true) (hl : y.length ≤ m) : Stem (n + m) (z ++ y) := by
  obtain ⟨c, r, e, h1, h2⟩ := h.ex
  refine ⟨by rw [len_app]; have := h.len; omega, c, r ++ y.cps.toList, by rw [cps_app, e]; rfl, h1, fun d hd => ?_⟩
  rw [← List.cons_append] at hd
  rcases List.mem_append.mp hd with q | q
  · exact h2 d q
  · exact hy d q
theorem Stem.isWd {n : Nat} {z : Str} (h : Stem n z) (hn : n ≤ 12) : Wd z := by
  obtain ⟨c, r, e, h1, h2⟩ := h.ex
  show wd z.cps.toList = true
  unfold L2.wd
  have hl : z.cps.toList.length ≤ 12 := Nat.le_trans h.len hn
  rw [e] at hl ⊢
  rw [Bool.and_eq_true, Bool.and_eq_true]
  exact ⟨decide_eq_true ⟨by rw [List.length_cons]; omega, hl⟩, decide_eq_true h1, List.all_eq_true.mpr h2⟩
theorem num_okc (n : Nat) : ∀ d ∈ (numS (n : Int)).cps.toList, okc d = true := fun d hd => by
  have e : (numS (n : Int)).cps.toList = TL.numL n := TL.tl_num n
  rw [e] at hd
  have h := TL.numL_digits n d hd
  have : ∀ d : Nat, 48 ≤ d → d ≤ 57 → okc d = true := by
    intro d h1 h2
    obtain ⟨j, rfl⟩ : ∃ j, d = 48 + j := ⟨d - 48, by omega⟩
    have hj : j < 10 := by omega
    have : ∀ j : Nat, j < 10 → okc (48 + j) = true := by decide +kernel
    exact this j hj
  exact this d (by omega) (by omega)
theorem num_lenN {n k : Nat} (hk : 0 < k) (h : n < 10 ^ k) : (numS (n : Int)).length ≤ k := by
  have e : (numS (n : Int)).cps.toList = TL.numL n := TL.tl_num n
  show (numS (n : Int)).cps.toList.length ≤ k
  rw [e]
  exact TL.numL_len hk h
theorem num_inj {m n : Nat} (h : numS (m : Int) = numS (n : Int)) : m = n := by
  have e : ∀ n : Nat, (numS (n : Int)).cps.toList = TL.numL n := fun n => TL.tl_num n
  refine TL.numL_inj ?_
  rw [← e, ← e, h]
theorem nodup_map' {α β : Type} {f : α → β} {l : List α} (hf : ∀ x y, f x = f y → x = y) (h : l.Nodup) : (l.map f).Nodup := by
  induction l with
  | nil => exact List.nodup_nil
  | cons a l ih =>
    rw [List.nodup_cons] at h
    rw [List.map_cons, List.nodup_cons]
    refine ⟨fun hm => ?_, ih h.2⟩
    obtain ⟨y, hy, e⟩ := List.mem_map.mp hm
    rw [← hf _ _ e] at h
    exact h.1 hy
theorem cstr_nat {n : Nat} (h : n < 10 ^ 40) : CStr (n : Int) := by
  unfold CStr
  rw [Int.natAbs_natCast]
  exact Nat.lt_trans h (by decide)
theorem intsF_split {n : Nat} {pre post : List Int} {x : Int} (h : intsF 0 n = pre ++ x :: post) : x = (pre.length : Int) ∧ pre.length < n := by
  have h1 : (intsF 0 n)[pre.length]? = some x := by rw [h]; simp
  obtain ⟨h2, h3⟩ := intsF_get h1
  exact ⟨by omega, h2⟩
/-- rows of a plan that is not refused -/
structure OkRows (prs : List (Str × Int)) (srs : List SRow) : Prop where
  pw : ∀ r ∈ prs, Wd r.1 ∧ 0 ≤ r.2 ∧ r.2 ≤ 99
  pn : (prs.map (·.1)).Nodup
  sw : ∀ r ∈ srs, Wd r.1 ∧ r.2.1 ≠ [] ∧ r.2.1.Nodup ∧ (∀ y ∈ r.2.1, y ∈ prs.map (·.1)) ∧ r.2.2.Nodup ∧ (∀ y ∈ r.2.2, y ∈ prs.map (·.1))
  sn : (srs.map (·.1)).Nodup
  p12 : prs.length ≤ 12
  s16 : srs.length ≤ 16
theorem OkRows.len {prs : List (Str × Int)} {srs : List SRow} (h : OkRows prs srs) {l : List Str} (hn : l.Nodup) (hs : ∀ y ∈ l, y ∈ prs.map (·.1)) : l.length ≤ 12 := by
  have := List.Nodup.length_le_of_subset hn hs
  rw [List.length_map] at this
  have := h.p12
  omega
theorem OkRows.B {prs : List (Str × Int)} {srs : List SRow} (h : OkRows prs srs) : RowsB prs srs := by
  have pw : ∀ y ∈ prs.map (·.1), y.length ≤ 1000 := fun y hy => by
    obtain ⟨r, hr, rfl⟩ := List.mem_map.mp hy
    exact Nat.le_trans (h.pw r hr).1.len (by decide)
  refine ⟨fun r hr => Nat.le_trans (h.pw r hr).1.len (by decide), fun r hr => ?_⟩
  obtain ⟨a0, a1, a2, a3, a4, a5⟩ := h.sw r hr
  exact ⟨Nat.le_trans a0.len (by decide), Nat.le_trans (h.len a2 a3) (by decide), Nat.le_trans (h.len a4 a5) (by decide), fun y hy => pw y (a3 y hy), fun y hy => pw y (a5 y hy)⟩
end
section
theorem sig36_at {x : Int} : ∃ j : Nat, j < 36 ∧ atI (("abcdefghijklmnopqrstuvwxyz0123456789" : Str)).cps.toList (Int.fmod x 36) = some (SIG.getD j 0) := by
  have hb := fmod_box (x := x) (m := 36) (by decide)
  obtain ⟨j, e⟩ : ∃ j : Nat, Int.fmod x 36 = j := ⟨(Int.fmod x 36).toNat, by omega⟩
  rw [e]
  exact ⟨j, by omega, sig_at (by omega)⟩
theorem let_at {x : Int} : ∃ j : Nat, j < 26 ∧ atI (("abcdefghijklmnopqrstuvwxyz" : Str)).cps.toList (Int.fmod x 26) = some (SIG.getD j 0) := by
  have hb := fmod_box (x := x) (m := 26) (by decide)
  obtain ⟨j, e⟩ : ∃ j : Nat, Int.fmod x 26 = j := ⟨(Int.fmod x 26).toNat, by omega⟩
  rw [e]
  refine ⟨j, by omega, atI_nat ?_⟩
  have : ∀ j : Nat, j < 26 → (("abcdefghijklmnopqrstuvwxyz" : Str)).cps.toList[j]? = some (SIG.getD j 0) := by decide +kernel
  exact this j (by omega)
theorem stem1 {j : Nat} (hj : j < 26) : Stem 1 (⟨#[SIG.getD j 0]⟩ : Str) := by
  have h26 := sig26 j hj
  rw [Bool.and_eq_true] at h26
  exact ⟨Nat.le_refl _, SIG.getD j 0, [], rfl, of_decide_eq_true h26.1, fun d hd => by rw [List.mem_singleton.mp hd]; exact h26.2⟩
theorem wordC_ok {Q : Str → Prop} {X : HE → Prop} (h : ∀ z, Stem 12 z → Q z) : m__law_word Q X := by
  unfold m__law_word
  refine ⟨.inl ⟨by decide, by decide⟩, ⟨by decide, by decide, by decide⟩, .inl ⟨by decide, by decide⟩, draw_ok (by decide) (by decide) fun a ha => ?_⟩
  intro size es
  have hs : 0 ≤ size ∧ size < 12 := by
    rw [es]
    exact fmod_box (by decide)
  obtain ⟨m, rfl⟩ : ∃ m : Nat, size = m := ⟨size.toNat, by omega⟩
  refine ⟨?_, fun n1 e1 => ?_⟩
  · exact ⟨by decide, by decide⟩
  obtain ⟨j, hj, e2⟩ := let_at (x := n1)
  refine ⟨_, e2, fun base hb => ⟨⟨by decide, by decide⟩, fun n2 e3 => ⟨⟨by omega, by omega⟩, ?_⟩⟩⟩
  rw [Int.toNat_natCast]
  refine forD_inv (fun done (s : Int × Str) => Stem (1 + done.length) s.2) (by rw [hb]; exact stem1 hj) (fun pre x post s nx e hs2 hnx => ?_) fun s hs2 => ?_
  · have hx := intsF_split e
    obtain ⟨i, hi, e4⟩ := sig36_at (x := s.1)
    refine ⟨_, e4, ?_, fun z hz => ⟨⟨by decide, by decide⟩, fun n3 e5 => hnx _ ?_⟩⟩
    · have := hs2.len
      have hb : big = 100000 := rfl
      show _ + 1 ≤ _
      omega
    · rw [hz, List.length_append]
      exact hs2.app (m := 1) (fun d hd => by
        have hd : d ∈ [SIG.getD i 0] := hd
        rw [List.mem_singleton.mp hd]
        exact sig36 i hi) (Nat.le_refl _)
  · rw [intsF_len] at hs2
    exact h _ ⟨Nat.le_trans hs2.len (by omega), hs2.ex⟩
/-- the words that are tried when the first one is used -/
def spare (k : Nat) : Str := ⟨#[SIG.getD (k % 26) 0]⟩ ++ numS (k : Int)
theorem spare_inj {m n : Nat} (h : spare m = spare n) : m = n := by
  have e := congrArg (fun z : Str => z.cps.toList.tail) h
  unfold spare at e
  simp only [cps_app, List.singleton_append] at e
  refine num_inj ?_
  have e : (numS (m : Int)).cps.toList = (numS (n : Int)).cps.toList := e
  rcases hm : numS (m : Int) with ⟨a⟩
  rcases hn : numS (n : Int) with ⟨b⟩
  rw [hm, hn] at e
  have e : a.toList = b.toList := e
  rw [Array.toList_inj.mp e]
theorem spare_stem {k : Nat} (h : k < 100) : Stem 3 (spare k) := (stem1 (Nat.mod_lt _ (by decide))).app (m := 2) (num_okc k) (num_lenN (by decide) h)
theorem spare_fresh {used : List Str} {n : Nat} (hl : used.length < n) (h : ∀ j < n, spare j ∈ used) : False := by
  have h1 : ((List.range n).map spare).Nodup := nodup_map' (fun _ _ => spare_inj) List.nodup_range
  have h2 : ∀ x ∈ (List.range n).map spare, x ∈ used := fun x hx => by
    obtain ⟨j, hj, rfl⟩ := List.mem_map.mp hx
    exact h j (List.mem_range.mp hj)
  have := List.Nodup.length_le_of_subset h1 h2
  rw [List.length_map, List.length_range] at this
  omega
theorem fresh_ok {used : List Str} {Q : Str → Prop} {X : HE → Prop} (hl : used.length < 59) (h : ∀ z, Wd z → z ∉ used → Q z) : m__law_fresh used Q X := by
  unfold m__law_fresh
  refine wordC_ok fun z hz => ?_
  refine forD_inv (fun done (w : Str) => Stem 12 w ∧ (∀ j, j + 1 = done.length → w = spare j) ∧ ∀ j, j + 1 < done.length → spare j ∈ used) ⟨hz, fun j hj => absurd hj (by simp), fun j hj => absurd hj (by simp)⟩ (fun pre x post w nx e ⟨h1, h2, h3⟩ hnx => ?_) fun w ⟨h1, h2, h3⟩ => ?_
  · obtain ⟨rfl, hp⟩ := intsF_split e
    have hp : pre.length < 60 := hp
    refine ⟨fun hc => ?_, fun hc => ?_⟩
    · refine h _ (h1.isWd (by decide)) fun hm => ?_
      rw [decide_eq_true hm] at hc
      cases hc
    · have hm : w ∈ used := by
        by_cases q : w ∈ used
        · exact q
        · rw [decide_eq_false q] at hc
          cases hc
      have eL : atI (("abcdefghijklmnopqrstuvwxyz" : Str)).cps.toList (Int.fmod (pre.length : Int) 26) = some (SIG.getD (pre.length % 26) 0) := by
        have e1 : Int.fmod (pre.length : Int) 26 = ((pre.length % 26 : Nat) : Int) := by
          rw [Int.fmod_eq_emod_of_nonneg _ (by decide)]
          omega
        rw [e1]
        have : ∀ j : Nat, j < 26 → (("abcdefghijklmnopqrstuvwxyz" : Str)).cps.toList[j]? = some (SIG.getD j 0) := by decide +kernel
        exact atI_nat (this _ (Nat.mod_lt _ (by decide)))
      refine ⟨_, eL, cstr_nat (Nat.lt_trans (show pre.length < 101 by omega) (by decide)), ?_, fun y hy => hnx y ⟨?_, fun j hj => ?_, fun j hj => ?_⟩⟩
      · have h1 := num_lenN (n := pre.length) (k := 2) (by decide) (by show _ < 100; omega)
        have hb : big = 100000 := rfl
        show 1 + _ ≤ _
        omega
      · rw [hy]
        have := spare_stem (k := pre.length) (by omega)
        exact ⟨Nat.le_trans this.len (by decide), this.ex⟩
      · rw [List.length_append] at hj
        have : j = pre.length := by simp at hj; exact hj
        rw [this]
        exact hy
      · rw [List.length_append] at hj
        by_cases q : j + 1 = pre.length
        · rw [← h2 j q]
          exact hm
        · exact h3 j (by simp at hj; omega)
  · rw [intsF_len] at h2 h3
    refine (spare_fresh (n := 59) hl fun j hj => h3 j ?_).elim
    show j + 1 < 60
    omega
end
section
theorem check_ok {z : Str} {Q : Str → Prop} {X : HE → Prop} (hz : Wd z) (h : Q z) : m_check_word z Q X := by
  obtain ⟨c, r, e, hc, ho, hl⟩ := wd_inv hz
  have hlen : z.length = z.cps.toList.length := rfl
  have h1 : 1 ≤ z.length := by rw [hlen, e, List.length_cons]; omega
  have h2 : z.length ≤ 12 := by rw [hlen]; exact hl
  unfold m_check_word m_is_word
  refine ifD_f ?_ ⟨c, atI_nat (j := 0) (by rw [e]; rfl), rfl, ifD_f ?_ ?_⟩
  · rw [decide_eq_true (show (1 : Int) ≤ (z.length : Int) by omega), decide_eq_true (show (z.length : Int) ≤ 12 by omega)]
    rfl
  · rw [decide_eq_true (show (⟨#[c]⟩ : Str) ∈ sgnL LETTERS from sgnL_mem.mpr hc)]
    rfl
  · refine mapD_ok (fun _ => true) (fun x hx k hk => ?_) ?_
    · obtain ⟨d, hd, rfl⟩ := List.mem_map.mp hx
      have od := ho d hd
      unfold okc at od
      rw [Bool.or_eq_true, decide_eq_true_iff, decide_eq_true_iff] at od
      refine ⟨rfl, ⟨fun _ => hk, fun q => ⟨rfl, ?_⟩⟩⟩
      have q := of_decide_eq_false q
      rw [decide_eq_true (sgnL_mem.mpr (od.resolve_left fun y => q (sgnL_mem.mpr y)))]
      exact hk
    · rw [List.nil_append]
      refine ifD_f ?_ h
      rw [show (((sgnL z).map fun _ => true).all id) = true from List.all_eq_true.mpr fun b hb => by
        obtain ⟨_, _, rfl⟩ := List.mem_map.mp hb
        rfl]
      rfl
abbrev LIM18 : Int := 10 ^ 18 + 1
theorem number_ok {Q : Int → Prop} {X : HE → Prop} (h : ∀ z : Int, -10 ^ 18 ≤ z → z ≤ 10 ^ 18 → Q z) : m__law_number Q X := by
  unfold m__law_number
  refine draw_ok (by decide) (by decide) fun v hv => ⟨fun _ => h 0 (by decide) (by decide), fun _ => ⟨fun _ => draw_ok (by decide) (by decide) fun i hi => h _ (by omega) (by omega), fun _ => ?_⟩⟩
  refine ⟨⟨by decide, by decide, by decide⟩, draw_ok (by decide) (by decide) fun i hi => draw_ok (by decide) (by decide) fun j hj => ?_⟩
  have hi : (i : Int) < 10 ^ 18 := hi
  refine ⟨.inl ⟨by decide, by decide⟩, .inr ?_, h _ ?_ ?_⟩
  · have : j = 0 ∨ j = 1 := by omega
    rcases this with rfl | rfl <;> exact ⟨by decide, by decide⟩
  all_goals
    have : j = 0 ∨ j = 1 := by omega
    rcases this with rfl | rfl
    · show _ ≤ _
      simp
      omega
    · show _ ≤ _
      simp
      omega
/-- rows that may make a tally -/
structure RowsK (N : Nat) (r : List (Str × Int)) : Prop where
  nd : (r.map (·.1)).Nodup
  wd : ∀ y ∈ r, Wd y.1
  len : r.length ≤ N
def clean (r : List (Str × Int)) : List (Str × Int) := r.filter fun y => !decide (y.2 = 0)
def tv (d : List (Str × Int)) (w : Str) : Int := (getR d w).getD 0
theorem getR_cons {y : Str × Int} {r : List (Str × Int)} {w : Str} : getR (y :: r) w = if y.1 = w then some y.2 else getR r w := by
  unfold getR
  rw [List.find?_cons]
  by_cases e : y.1 = w
  · rw [decide_eq_true e, if_pos e]
    rfl
  · rw [decide_eq_false e, if_neg e]
theorem tv_out {d : List (Str × Int)} {w : Str} (h : w ∉ d.map (·.1)) : tv d w = 0 := by
  unfold tv
  rw [getR_none.mpr h]
  rfl
theorem tv_in {d : List (Str × Int)} (nd : (d.map (·.1)).Nodup) {y : Str × Int} (h : y ∈ d) : tv d y.1 = y.2 := by
  unfold tv
  rw [getR_nodup nd (n := y.1) (x := y.2) h]
  rfl
theorem clean_sub (r : List (Str × Int)) : (clean r).Sublist r := List.filter_sublist
theorem clean_nd {r : List (Str × Int)} (nd : (r.map (·.1)).Nodup) : ((clean r).map (·.1)).Nodup := ((clean_sub r).map _).nodup nd
theorem tv_clean {r : List (Str × Int)} (nd : (r.map (·.1)).Nodup) (w : Str) : tv (clean r) w = tv r w := by
  by_cases hw : w ∈ r.map (·.1)
  · obtain ⟨y, hy, rfl⟩ := List.mem_map.mp hw
    rw [tv_in nd hy]
    by_cases h0 : y.2 = 0
    · rw [h0]
      refine tv_out fun q => ?_
      obtain ⟨z, hz, e⟩ := List.mem_map.mp q
      have h2 := List.mem_filter.mp hz
      have := tv_in nd h2.1
      rw [e, tv_in nd hy, h0] at this
      have h3 := h2.2
      rw [← this] at h3
      exact absurd h3 (by decide)
    · exact tv_in (clean_nd nd) (List.mem_filter.mpr ⟨hy, by rw [decide_eq_false h0]; rfl⟩)
  · rw [tv_out hw]
    exact tv_out fun q => hw (((clean_sub r).map _).subset q)
/-- a tally -/
structure Tal (N : Nat) (d : List (Str × Int)) : Prop extends RowsK N d where
  nz : ∀ y ∈ d, y.2 ≠ 0
theorem Tal.mem {N : Nat} {d : List (Str × Int)} (t : Tal N d) {w : Str} : w ∈ d.map (·.1) ↔ tv d w ≠ 0 := by
  constructor
  · intro h
    obtain ⟨y, hy, rfl⟩ := List.mem_map.mp h
    rw [tv_in t.nd hy]
    exact t.nz y hy
  · intro h
    exact Classical.byContradiction fun q => h (tv_out q)
theorem RowsK.tal {N : Nat} {r : List (Str × Int)} (h : RowsK N r) : Tal N (clean r) :=
  { nd := clean_nd h.nd, wd := fun y hy => h.wd y ((clean_sub r).subset hy), len := Nat.le_trans (clean_sub r).length_le h.len, nz := fun y hy e => by
      have := (List.mem_filter.mp hy).2
      rw [e] at this
      exact absurd this (by decide) }
theorem someR {rows : List (Str × Int)} {n : Str} : (getR rows n).isSome = decide (n ∈ rows.map (·.1)) := by
  cases e : getR rows n with
  | none => rw [decide_eq_false (getR_none.mp e)]; rfl
  | some x => rw [decide_eq_true (List.mem_map.mpr ⟨_, getR_mem e, rfl⟩)]; rfl
theorem putR_new {rows : List (Str × Int)} {n : Str} {x : Int} (h : n ∉ rows.map (·.1)) : putR rows n x = rows ++ [(n, x)] := if_neg h
theorem dictP_id {r : List (Str × Int)} (nd : (r.map (·.1)).Nodup) : dictP r = r := by
  have : ∀ (xs acc : List (Str × Int)), ((acc ++ xs).map (·.1)).Nodup → xs.foldl (fun rows x => putR rows x.1 x.2) acc = acc ++ xs := by
    intro xs
    induction xs with
    | nil => intro acc _; rw [List.append_nil]; rfl
    | cons x xs ih =>
      intro acc h
      rw [List.foldl_cons, putR_new (fun q => ?_), ih _ (by rw [List.append_assoc]; exact h), List.append_assoc]
      · rfl
      · rw [List.map_append, List.map_cons] at h
        have := (List.nodup_append.mp h).2.2 x.1 q x.1 (List.mem_cons_self ..)
        exact this rfl
  exact this r [] nd
theorem init_ok {N : Nat} {r : List (Str × Int)} {Q : List (Str × Int) → Prop} {X : HE → Prop} (hN : N < 1000) (hr : RowsK N r) (h : Tal N (clean r) → Q (clean r)) : m_Tally___init__ r Q X := by
  unfold m_Tally___init__
  refine forD_inv (fun done s => s = done) rfl (fun pre x post s nx e hs hnx => ?_) fun s hs => ?_
  · subst hs
    have hx : x ∈ r := by rw [e]; simp
    have hn : x.1 ∉ s.map (·.1) := fun q => by
      have nd := hr.nd
      rw [e, List.map_append, List.map_cons] at nd
      exact (List.nodup_append.mp nd).2.2 x.1 q x.1 (List.mem_cons_self ..) rfl
    refine check_ok (hr.wd x hx) (ifD_f (by rw [someR, decide_eq_false hn]) ⟨lt_big ?_, hnx _ (putR_new hn)⟩)
    have := hr.len
    rw [e, List.length_append, List.length_cons] at this
    omega
  · subst hs
    rw [compD_map]
    refine compD_ok (fun y => !decide (y.2 = 0)) (fun y => y) (fun y hy k hk => ?_) ?_
    · have g := getR_nodup hr.nd (n := y.1) (x := y.2) hy
      refine ⟨_, g, ?_⟩
      cases e : decide (y.2 = 0) with
      | true => rw [e, if_neg (by decide)] at hk; exact ifD_f rfl hk
      | false => rw [e, if_pos (by decide)] at hk; exact ifD_t rfl ⟨_, g, hk⟩
    · rw [List.nil_append, List.map_id']
      show Q (dictP (clean s))
      rw [dictP_id (clean_nd hr.nd)]
      exact h hr.tal
end
section
theorem rising_pw : ∀ {l : List Str} {p : Str}, PyProof.Rows.risingS p l = true → (p :: l).Pairwise (fun a b : Str => a.cps.toList ≤ b.cps.toList)
  | [], p, _ => List.pairwise_singleton ..
  | x :: r, p, h => by
    have h : (!ltCps x.cps.toList p.cps.toList && PyProof.Rows.risingS x r) = true := h
    rw [Bool.and_eq_true, ltCps_eq] at h
    have ih := rising_pw h.2
    have px : p.cps.toList ≤ x.cps.toList := by
      have := h.1
      simp only [Bool.not_eq_true', decide_eq_false_iff_not] at this
      exact List.not_lt.mp this
    refine List.pairwise_cons.mpr ⟨fun y hy => ?_, ih⟩
    rcases List.mem_cons.mp hy with rfl | hy
    · exact px
    · exact List.le_trans px ((List.pairwise_cons.mp ih).1 y hy)
theorem sorted_pw {l : List Str} (h : PyProof.Rows.sortedS l = true) : l.Pairwise (fun a b : Str => a.cps.toList ≤ b.cps.toList) := by
  cases l with
  | nil => exact .nil
  | cons x r => exact rising_pw h
theorem pw_uni : ∀ {l m : List Str}, l.Perm m → l.Pairwise (fun a b : Str => a.cps.toList ≤ b.cps.toList) → m.Pairwise (fun a b : Str => a.cps.toList ≤ b.cps.toList) → l = m
  | [], m, pm, _, _ => (List.nil_perm.mp pm).symm
  | a :: l, [], pm, _, _ => absurd pm.length_eq (by simp)
  | a :: l, b :: m, pm, hl, hm => by
    have hl := List.pairwise_cons.mp hl
    have hm := List.pairwise_cons.mp hm
    have e : a = b := by
      rcases List.mem_cons.mp (pm.mem_iff.mp (List.mem_cons_self ..)) with q | q
      · exact q
      · rcases List.mem_cons.mp (pm.mem_iff.mpr (List.mem_cons_self ..)) with q2 | q2
        · exact q2.symm
        · have := List.le_antisymm (hl.1 b q2) (hm.1 a q)
          rcases a with ⟨a⟩
          rcases b with ⟨b⟩
          exact congrArg Str.mk (Array.toList_inj.mp this)
    subst e
    rw [pw_uni (List.Perm.cons_inv pm) hl.2 hm.2]
theorem sorted_uni {l m : List Str} (pm : l.Perm m) (hl : PyProof.Rows.sortedS l = true) (hm : PyProof.Rows.sortedS m = true) : l = m := pw_uni pm (sorted_pw hl) (sorted_pw hm)
end
section
theorem isint_ok {n : Int} {Q : Bool → Prop} {X : HE → Prop} (h : Q true) : m__law_is_int n Q X := h
theorem clean_some {r : List (Str × Int)} (nd : (r.map (·.1)).Nodup) (w : Str) : (getR (clean r) w).isSome = !decide (tv r w = 0) := by
  rw [someR]
  have t := tv_clean nd w
  by_cases h : w ∈ (clean r).map (·.1)
  · rw [decide_eq_true h]
    obtain ⟨y, hy, rfl⟩ := List.mem_map.mp h
    have h2 := (List.mem_filter.mp hy).2
    rw [← t, tv_in (clean_nd nd) hy]
    exact h2.symm
  · rw [decide_eq_false h, ← t, tv_out h]
    rfl
theorem values_ok {r : List (Str × Int)} {z : Str} {Q : Bool → Prop} {X : HE → Prop} (nd : (r.map (·.1)).Nodup) (hz : z ∉ r.map (·.1)) (rl : r.length ≤ 1000) (h : Q true) : m__law_values (clean r) r z Q X := by
  unfold m__law_values m_Tally___getitem__ m_Tally___contains__ m_Tally___len__ m_Tally___abs__ m_Tally___bool__ m__law_is_int
  dsimp only
  have tvr : ∀ y ∈ r, (getR (clean r) y.1).getD 0 = y.2 := fun y hy => by
    show tv (clean r) y.1 = y.2
    rw [tv_clean nd, tv_in nd hy]
  refine forD_all (fun y hy nx hnx => ?_) ?_
  · refine orD_ok (c := false) (fun _ k hk => ?_) (ifD_f rfl ?_)
    · show k (!decide ((getR (clean r) y.1).getD 0 = y.2))
      rw [tvr y hy, decide_eq_true rfl]
      exact hk
    · show ifD (!decide ((getR (clean r) y.1).isSome = (!decide (y.2 = (0 : Int))))) _ _
      rw [clean_some nd, tv_in nd hy, decide_eq_true rfl]
      exact ifD_f rfl hnx
  · have z0 : tv (clean r) z = 0 := by rw [tv_clean nd, tv_out hz]
    rw [show (getR (clean r) z).getD 0 = 0 from z0]
    refine orD_ok (c := false) (fun _ k hk => ?_) (ifD_f rfl fun full ef => ?_)
    · show k (getR (clean r) z).isSome
      rw [clean_some nd, tv_out hz]
      exact hk
    · rw [List.map_id'] at ef
      have ef : full = clean r := ef
      subst ef
      have cl : (clean r).length ≤ 1000 := Nat.le_trans (clean_sub r).length_le rl
      refine ⟨⟨by omega, by omega⟩, ?_⟩
      rw [decide_eq_true (rfl : ((clean r).length : Int) = ((clean r).length : Int))]
      refine orD_ok (c := false) (fun _ k hk => ?_) (ifD_f rfl ?_)
      · show k (!decide ((((clean r).map (·.2)).map fun x1 => (if x1 < 0 then -x1 else x1)).sum = _))
        rw [List.map_map, decide_eq_true (by rfl)]
        exact hk
      · show Q (decide (decide (((clean r).length : Int) > 0) = decide (((clean r).length : Int) > 0)))
        rw [decide_eq_true rfl]
        exact h
/-- the rows of a tally in ascending order of words, by the class and by the law -/
def rowsF (r : List (Str × Int)) (ys : List Str) : List (Str × Int) := ys.map fun w => (w, tv r w)
theorem rows_ok {r : List (Str × Int)} {Q : List (Str × Int) → Prop} {X : HE → Prop} (nd : (r.map (·.1)).Nodup) (rl : r.length < 64) (h : ∀ ys, ys.Perm ((clean r).map (·.1)) → PyProof.Rows.sortedS ys = true → Q (rowsF r ys)) : m_Tally_rows (clean r) Q X := by
  unfold m_Tally_rows
  rw [List.map_id']
  have cl : (clean r).length < 64 := Nat.lt_of_le_of_lt (clean_sub r).length_le rl
  refine ⟨by rw [List.length_map]; exact cl, fun ys pm so => mapD_ok (fun w => (w, tv r w)) (fun w hw k hk => ?_) (h ys pm so)⟩
  obtain ⟨y, hy, rfl⟩ := List.mem_map.mp (pm.mem_iff.mp hw)
  refine ⟨y.2, getR_nodup (clean_nd nd) hy, ?_⟩
  rw [← tv_clean nd, tv_in (clean_nd nd) hy] at hk
  exact hk
theorem rowsN_ok {r : List (Str × Int)} {Q : List (Str × Int) → Prop} {X : HE → Prop} (nd : (r.map (·.1)).Nodup) (rl : r.length < 64) (h : ∀ ys, ys.Perm ((clean r).map (·.1)) → PyProof.Rows.sortedS ys = true → Q (rowsF r ys)) : m_Tally_rowsN (clean r) Q X := rows_ok (X := X) nd rl h
end
section
theorem one_row {r : List (Str × Int)} (nd : (r.map (·.1)).Nodup) {w : Str} (hw : w ∈ r.map (·.1)) : (r.flatMap fun x => if x.1 = w then [(w, x.2)] else []) = [(w, tv r w)] := by
  induction r with
  | nil => cases hw
  | cons y r ih =>
    rw [List.map_cons, List.nodup_cons] at nd
    rw [List.flatMap_cons]
    by_cases e : y.1 = w
    · rw [if_pos e]
      have : (r.flatMap fun x => if x.1 = w then [(w, x.2)] else []) = [] := List.flatMap_eq_nil_iff.mpr fun x hx => if_neg fun q => nd.1 (List.mem_map.mpr ⟨x, hx, by rw [q, e]⟩)
      rw [this, List.append_nil]
      unfold tv
      rw [getR_cons, if_pos e]
      rfl
    · rw [if_neg e, List.nil_append, ih nd.2 ((List.mem_cons.mp hw).resolve_left fun q => e q.symm)]
      unfold tv
      rw [getR_cons, if_neg e]
theorem lsorted_ok {r : List (Str × Int)} {Q : List (Str × Int) → Prop} {X : HE → Prop} (nd : (r.map (·.1)).Nodup) (rl : r.length < 64) (h : ∀ ys, ys.Perm ((clean r).map (·.1)) → PyProof.Rows.sortedS ys = true → Q (rowsF r ys)) : m__law_sorted r Q X := by
  unfold m__law_sorted
  have cl : (clean r).length < 64 := Nat.lt_of_le_of_lt (clean_sub r).length_le rl
  refine ⟨by rw [List.length_map]; exact cl, fun ys pm so => ?_⟩
  have yl : ys.length < 64 := by
    rw [pm.length_eq, List.length_map]
    exact cl
  refine forD_push (f := fun w => (w, tv r w)) (N := 64) (fun w hw s nx hs hnx => ?_) (by show 0 + ys.length ≤ 64; omega) (by rw [List.nil_append]; exact h ys pm so)
  have hr : w ∈ r.map (·.1) := ((clean_sub r).map _).subset (pm.mem_iff.mp hw)
  have e1 := one_row nd hr
  refine forD_app (g := fun x => if x.1 = w then [(w, x.2)] else []) (N := 65) (fun x hx s2 nx2 hl hk => ⟨fun q => ?_, fun q => ?_⟩) ?_ ?_
  · rw [if_pos (of_decide_eq_true q)] at hl hk
    have hb : big = 100000 := rfl
    have hl : s2.length + 1 ≤ 65 := hl
    exact ⟨by omega, hk⟩
  · rw [if_neg (of_decide_eq_false q), List.append_nil] at hk
    exact hk
  · rw [e1]
    show s.length + 1 ≤ 65
    omega
  · rw [e1]
    exact hnx
theorem neg_ok {N : Nat} {r : List (Str × Int)} {Q : List (Str × Int) → Prop} {X : HE → Prop} (hN : N < 1000) (hr : RowsK N r) (h : Q (clean (r.map fun x => (x.1, -x.2)))) : m_Tally___neg__ (clean r) Q X := by
  unfold m_Tally___neg__
  rw [mapD_map]
  refine mapD_ok (fun y => (y.1, -y.2)) (fun y hy k hk => ⟨y.2, getR_nodup (clean_nd hr.nd) hy, hk⟩) ?_
  rw [List.nil_append]
  have t := hr.tal
  have km : ((clean r).map fun y => (y.1, -y.2)).map (·.1) = (clean r).map (·.1) := by rw [List.map_map]; rfl
  have e : clean ((clean r).map fun y => (y.1, -y.2)) = clean (r.map fun x => (x.1, -x.2)) := by
    unfold clean
    rw [List.filter_map, List.filter_map, List.filter_filter]
    congr 1
    refine List.filter_congr fun x _ => ?_
    show ((!decide (-x.2 = 0)) && !decide (x.2 = 0)) = (!decide (-x.2 = 0))
    by_cases z : x.2 = 0
    · rw [z]; rfl
    · rw [decide_eq_false z, Bool.not_false, Bool.and_true]
  refine init_ok (N := N) hN ⟨by rw [km]; exact t.nd, fun y hy => ?_, by rw [List.length_map]; exact t.len⟩ fun _ => by rw [e]; exact h
  obtain ⟨x, hx, rfl⟩ := List.mem_map.mp hy
  exact t.wd x hx
end
section
def dotF (r s : List (Str × Int)) : Int := (r.map fun y => y.2 * tv s y.1).sum
theorem sum_zero {α : Type} {l : List α} {f : α → Int} (h : ∀ x ∈ l, f x = 0) : (l.map f).sum = 0 := by
  induction l with
  | nil => rfl
  | cons x l ih => rw [List.map_cons, List.sum_cons, h x (List.mem_cons_self ..), ih fun y hy => h y (List.mem_cons_of_mem _ hy)]; rfl
theorem sum_add {α : Type} {l : List α} {f g : α → Int} : (l.map fun x => f x + g x).sum = (l.map f).sum + (l.map g).sum := by
  induction l with
  | nil => rfl
  | cons x l ih => rw [List.map_cons, List.map_cons, List.map_cons, List.sum_cons, List.sum_cons, List.sum_cons, ih]; omega
theorem sum_pick {s : List (Str × Int)} (nd : (s.map (·.1)).Nodup) {w : Str} {n : Int} : (s.map fun z => z.2 * (if w = z.1 then n else 0)).sum = n * tv s w := by
  induction s with
  | nil => rw [show tv [] w = 0 from rfl, Int.mul_zero]; rfl
  | cons y s ih =>
    rw [List.map_cons, List.nodup_cons] at nd
    rw [List.map_cons, List.sum_cons]
    unfold tv
    rw [getR_cons]
    by_cases e : y.1 = w
    · rw [if_pos e.symm, if_pos e, sum_zero fun z hz => by
        rw [if_neg fun q => nd.1 (List.mem_map.mpr ⟨z, hz, by rw [← q, e]⟩), Int.mul_zero]]
      show y.2 * n + 0 = n * y.2
      rw [Int.add_zero, Int.mul_comm]
    · rw [if_neg fun q => e q.symm, if_neg e, Int.mul_zero, Int.zero_add]
      exact ih nd.2
theorem dot_comm : ∀ {r s : List (Str × Int)}, (r.map (·.1)).Nodup → (s.map (·.1)).Nodup → dotF r s = dotF s r
  | [], s, _, _ => (sum_zero fun y _ => by rw [show tv [] y.1 = 0 from rfl, Int.mul_zero]).symm
  | y :: r, s, nr, ns => by
    rw [List.map_cons, List.nodup_cons] at nr
    have ih := dot_comm nr.2 ns
    unfold dotF at ih ⊢
    rw [List.map_cons, List.sum_cons, ih, ← sum_pick ns (w := y.1) (n := y.2), ← sum_add]
    refine congrArg List.sum (List.map_congr_left fun z _ => ?_)
    rw [← Int.mul_add]
    congr 1
    unfold tv
    rw [getR_cons]
    by_cases e : y.1 = z.1
    · rw [if_pos e, if_pos e, ← e]
      show y.2 + tv r y.1 = y.2
      rw [tv_out nr.1, Int.add_zero]
    · rw [if_neg e, if_neg e, Int.zero_add]
theorem dot_clean {r s : List (Str × Int)} (nr : (r.map (·.1)).Nodup) (ns : (s.map (·.1)).Nodup) : dotF (clean r) (clean s) = dotF r s := by
  have a : ∀ x : List (Str × Int), dotF x (clean s) = dotF x s := fun x => congrArg List.sum (List.map_congr_left fun y _ => by rw [tv_clean ns])
  have b : ∀ x : List (Str × Int), dotF x (clean r) = dotF x r := fun x => congrArg List.sum (List.map_congr_left fun y _ => by rw [tv_clean nr])
  rw [a, dot_comm (clean_nd nr) ns, b, dot_comm ns nr]
theorem dot_ok {r s : List (Str × Int)} {Q : Int → Prop} {X : HE → Prop} (nr : (r.map (·.1)).Nodup) (ns : (s.map (·.1)).Nodup) (bd : ∀ y ∈ r, -LIM18 ≤ y.2 ∧ y.2 ≤ LIM18) (h : Q (dotF r s)) : m_Tally_dot (clean r) (clean s) Q X := by
  unfold m_Tally_dot m_Tally___getitem__
  dsimp only
  rw [mapD_map]
  refine mapD_ok (fun y => y.2 * tv (clean s) y.1) (fun y hy k hk => ⟨y.2, getR_nodup (clean_nd nr) hy, .inl ?_, hk⟩) ?_
  · have := bd y ((clean_sub r).subset hy)
    have e : (10 : Int) ^ 18 + 1 < 2 ^ 64 := by decide
    unfold LIM18 at this
    constructor <;> omega
  · rw [List.nil_append]
    have := dot_clean nr ns
    unfold dotF at this h
    rw [this]
    exact h
end
section
structure RowsB (r : List (Str × Int)) : Prop extends RowsK 8 r where
  bd : ∀ y ∈ r, -(10 ^ 18 : Int) ≤ y.2 ∧ y.2 ≤ (10 ^ 18 : Int)
theorem RowsB.lim {r : List (Str × Int)} (h : RowsB r) : ∀ y ∈ r, -LIM18 ≤ y.2 ∧ y.2 ≤ LIM18 := fun y hy => by
  have := h.bd y hy
  unfold LIM18
  omega
theorem rowsL_ok {known : List Str} {Q : List (Str × Int) → Prop} {X : HE → Prop} (hk : ∀ y ∈ known, Wd y) (kl : known.length ≤ 8) (h : ∀ r, RowsB r → Q r) : m__law_rows known Q X := by
  unfold m__law_rows
  refine draw_ok (by decide) (by decide) fun v hv => ⟨⟨by omega, by omega⟩, ?_⟩
  rw [Int.toNat_natCast]
  refine forD_inv (fun done (s : List (Str × Int) × List Str) => s.1.map (·.1) = s.2 ∧ s.1.length = done.length ∧ s.2.Nodup ∧ (∀ y ∈ s.1, Wd y.1) ∧ ∀ y ∈ s.1, -(10 ^ 18 : Int) ≤ y.2 ∧ y.2 ≤ (10 ^ 18 : Int)) ⟨rfl, rfl, .nil, (fun y hy => nomatch hy), fun y hy => nomatch hy⟩ (fun pre x post s nx e ⟨e1, e2, nd, hw, hb⟩ hnx => ?_) fun s ⟨e1, e2, nd, hw, hb⟩ => ?_
  · have hp := (intsF_split e).2
    have l2 : s.2.length = s.1.length := by rw [← e1, List.length_map]
    have go : ∀ z, Wd z → z ∉ s.2 → (s.2.length < big ∧ m__law_number (fun v18 => s.1.length < big ∧ nx ((s.1 ++ [(z, v18)]), (s.2 ++ [z]))) noX) := fun z hz hn => ⟨lt_big (by omega), number_ok fun n n1 n2 => ⟨lt_big (by omega), hnx _ ⟨?_, ?_, nodup_snoc nd hn, ?_, ?_⟩⟩⟩
    · have fr : ∀ {k : Str → Prop}, (∀ z, Wd z → z ∉ s.2 → k z) → m__law_fresh s.2 (fun v => k v) noX := fun hz => fresh_ok (by omega) hz
      unfold joinD
      by_cases ek : known = []
      · subst ek
        exact ⟨(fun q => nomatch q), fun _ => ⟨(fun q => nomatch q), fun _ => fr go⟩⟩
      · have kp := pos_of_ne ek
        refine ⟨fun _ => draw_ok (by decide) (by decide) fun d hd => ⟨fun _ => draw_ok (by omega) (Int.le_trans (show (known.length : Int) ≤ 1000 by omega) (by decide)) fun i hi => ⟨known[i]'(by omega), atI_nat (List.getElem?_eq_getElem (by omega)), ⟨fun _ => fr go, fun q => go _ (hk _ (List.getElem_mem _)) (of_decide_eq_false q)⟩⟩, fun _ => fr go⟩, fun _ => ⟨(fun q => nomatch q), fun _ => fr go⟩⟩
    · show (s.1 ++ [(z, n)]).map (·.1) = _
      rw [List.map_append, e1]
      rfl
    · show (s.1 ++ [(z, n)]).length = _
      rw [List.length_append, List.length_append, e2]
      rfl
    · intro y hy
      rcases List.mem_append.mp hy with q | q
      · exact hw y q
      · rw [List.mem_singleton.mp q]
        exact hz
    · intro y hy
      rcases List.mem_append.mp hy with q | q
      · exact hb y q
      · rw [List.mem_singleton.mp q]
        exact ⟨n1, n2⟩
  · rw [intsF_len] at e2
    exact h _ { nd := by rw [e1]; exact nd, wd := hw, len := by omega, bd := hb }
/-- the law's own double loop -/
theorem loop_ok {r s : List (Str × Int)} {k : Int → Prop} (ns : (s.map (·.1)).Nodup) (bd : ∀ y ∈ r, -LIM18 ≤ y.2 ∧ y.2 ≤ LIM18) (h : k (dotF r s)) : forD r (0 : Int) (fun x29 s28 nx bk =>
    compD s [] (fun x31 k32 => ifD (decide (x31.1 = x29.1)) (CMul x29.2 x31.2 ∧ k32 (some (x29.2 * x31.2))) (k32 none)) (fun ys33 => ∀ dot37, dot37 = (s28 + (ys33).sum) → nx dot37)) k := by
  refine forD_inv (fun done n => n = dotF done s) rfl (fun pre x post n nx e hn hnx => ?_) fun n hn => by rw [hn]; exact h
  have hx : x ∈ r := by rw [e]; simp
  refine compD_ok (fun z => decide (z.1 = x.1)) (fun z => x.2 * z.2) (fun z hz k2 hk2 => ⟨fun q => ⟨.inl ?_, ?_⟩, fun q => ?_⟩) fun d ed => hnx _ ?_
  · have := bd x hx
    have e : (10 : Int) ^ 18 + 1 < 2 ^ 64 := by decide
    unfold LIM18 at this
    constructor <;> omega
  · rw [q, if_pos rfl] at hk2
    exact hk2
  · rw [q, if_neg Bool.false_ne_true] at hk2
    exact hk2
  · rw [ed, hn, List.nil_append]
    unfold dotF
    rw [List.map_append, List.sum_append]
    congr 1
    show _ = x.2 * tv s x.1 + 0
    rw [Int.add_zero, ← sum_pick ns (w := x.1) (n := x.2)]
    clear hnx ed hn e hx bd h
    induction s with
    | nil => rfl
    | cons y s ih =>
      rw [List.map_cons, List.nodup_cons] at ns
      rw [List.filter_cons, List.map_cons, List.sum_cons]
      by_cases q : y.1 = x.1
      · rw [if_pos (decide_eq_true q), if_pos q.symm, List.map_cons, List.sum_cons, ih ns.2, Int.mul_comm]
      · rw [if_neg (by rw [decide_eq_false q]; exact Bool.false_ne_true), if_neg fun z => q z.symm, Int.mul_zero, Int.zero_add]
        exact ih ns.2
end
section
theorem check_bad {z : Str} {Q : Str → Prop} {X : HE → Prop} (hz : wd z.cps.toList = false) (h : X (.badWord z)) : m_check_word z Q X := by
  unfold m_check_word m_is_word
  have hlen : z.length = z.cps.toList.length := rfl
  by_cases hl : 1 ≤ z.cps.toList.length ∧ z.cps.toList.length ≤ 12
  · have d1 : (decide ((1 : Int) ≤ (z.length : Int)) && decide ((z.length : Int) ≤ 12)) = true := by
      rw [decide_eq_true (show (1 : Int) ≤ (z.length : Int) by omega), decide_eq_true (show (z.length : Int) ≤ 12 by omega)]
      rfl
    rw [d1]
    cases e : z.cps.toList with
    | nil => rw [e] at hl; exact absurd hl.1 (by decide)
    | cons c r =>
      refine ifD_f rfl ⟨c, atI_nat (j := 0) rfl, rfl, ?_⟩
      by_cases hc : c ∈ LETTERS.cps.toList
      · rw [decide_eq_true (show (⟨#[c]⟩ : Str) ∈ sgnL LETTERS from sgnL_mem.mpr hc)]
        refine ifD_f rfl (mapD_ok (fun x => decide (x ∈ sgnL LETTERS) || decide (x ∈ sgnL DIGITS)) (fun x hx k hk => ?_) ?_)
        · obtain ⟨d, hd, rfl⟩ := List.mem_map.mp hx
          exact ⟨rfl, orD_ok (fun _ k2 hk2 => ⟨rfl, hk2⟩) hk⟩
        · refine ifD_t ?_ h
          rw [List.nil_append, all_id]
          have : ((sgnL z).all fun x => decide (x ∈ sgnL LETTERS) || decide (x ∈ sgnL DIGITS)) = z.cps.toList.all okc := by
            unfold sgnL
            rw [List.all_map]
            refine congrArg (fun p => z.cps.toList.all p) (funext fun d => ?_)
            show (decide (sgn d ∈ sgnL LETTERS) || decide (sgn d ∈ sgnL DIGITS)) = okc d
            simp only [sgnL_mem]
            rfl
          rw [this]
          unfold L2.wd at hz
          rw [decide_eq_true hl, Bool.true_and, e, List.headD_cons, decide_eq_true hc, Bool.true_and] at hz
          rw [e, hz]
          rfl
      · rw [decide_eq_false (show ¬ (⟨#[c]⟩ : Str) ∈ sgnL LETTERS from fun q => hc (sgnL_mem.mp q))]
        exact ifD_t rfl (ifD_t rfl h)
  · have d1 : (decide ((1 : Int) ≤ (z.length : Int)) && decide ((z.length : Int) ≤ 12)) = false := by
      by_cases q : 1 ≤ z.cps.toList.length
      · rw [decide_eq_false (show ¬ (z.length : Int) ≤ 12 by omega), Bool.and_false]
      · rw [decide_eq_false (show ¬ (1 : Int) ≤ (z.length : Int) by omega), Bool.false_and]
    rw [d1]
    exact ifD_t rfl (ifD_t rfl h)
theorem init_bad {N : Nat} {A B : List (Str × Int)} {x : Str × Int} {Q : List (Str × Int) → Prop} {X : HE → Prop} (hN : N < 1000) (hA : RowsK N A)
    (bad : (Wd x.1 ∧ x.1 ∈ A.map (·.1) ∧ X (.double x.1)) ∨ (wd x.1.cps.toList = false ∧ X (.badWord x.1))) : m_Tally___init__ (A ++ x :: B) Q X := by
  unfold m_Tally___init__
  refine forD_inv (fun done s => s = done ∧ done.length ≤ A.length) ⟨rfl, Nat.zero_le _⟩ (fun pre y post s nx e ⟨hs, hl⟩ hnx => ?_) fun s ⟨hs, hl⟩ => ?_
  · subst hs
    have hy : (A ++ x :: B)[s.length]? = some y := by rw [e]; simp
    by_cases q : s.length < A.length
    · rw [List.getElem?_append_left q] at hy
      have hm : y ∈ A := List.mem_of_getElem? hy
      have ep : s = A.take s.length := by
        have := congrArg (List.take s.length) e
        rw [List.take_append_of_le_length (Nat.le_of_lt q), List.take_left] at this
        exact this.symm
      have hn : y.1 ∉ s.map (·.1) := fun z => by
        obtain ⟨u, hu, eu⟩ := List.mem_map.mp z
        rw [ep] at hu
        obtain ⟨i, hi, ei⟩ := List.mem_iff_getElem.mp hu
        rw [List.getElem_take] at ei
        have hi2 : i < s.length := by
          rw [List.length_take] at hi
          omega
        have ne := L2.nodup_ne hA.nd (i := i) (j := s.length) (x := u) (y := y) (by rw [List.getElem?_eq_getElem (by omega), ei]) hy (by omega)
        exact ne eu
      refine check_ok (hA.wd y hm) (ifD_f (by rw [someR, decide_eq_false hn]) ⟨lt_big ?_, hnx _ ⟨putR_new hn, ?_⟩⟩)
      · have := hA.len
        omega
      · rw [List.length_append]
        show s.length + 1 ≤ _
        omega
    · have el : s.length = A.length := by omega
      have ep : s = A := by
        have := congrArg (List.take s.length) e
        rw [List.take_left, el, List.take_left] at this
        exact this.symm
      rw [List.getElem?_append_right (by omega), el, Nat.sub_self] at hy
      obtain rfl : x = y := Option.some.inj hy
      rcases bad with ⟨b1, b2, b3⟩ | ⟨b1, b2⟩
      · exact check_ok b1 (ifD_t (by rw [someR, ep, decide_eq_true b2]) b3)
      · exact check_bad b1 b2
  · rw [List.length_append, List.length_cons] at hl
    omega
end
section
theorem refused_word {N : Nat} {A B : List (Str × Int)} {x : Str × Int} {Q : (Str × Str × Bool × Bool × Bool) ⊕ Str → Prop} {X : HE → Prop} (hN : N < 1000) (hA : RowsK N A) (hz : wd x.1.cps.toList = false) (h : Q (.inl ("BadWord", x.1, false, true, true))) : m__law_refused (A ++ x :: B) Q X := by
  unfold m__law_refused joinD tryD
  exact init_bad hN hA (.inr ⟨hz, h⟩)
theorem refused_double {N : Nat} {A B : List (Str × Int)} {x : Str × Int} {Q : (Str × Str × Bool × Bool × Bool) ⊕ Str → Prop} {X : HE → Prop} (hN : N < 1000) (hA : RowsK N A) (hz : Wd x.1) (hm : x.1 ∈ A.map (·.1)) (h : Q (.inl ("DoubleName", x.1, false, true, true))) : m__law_refused (A ++ x :: B) Q X := by
  unfold m__law_refused joinD tryD
  exact init_bad hN hA (.inl ⟨hz, hm, h⟩)
end
section
theorem eqv_five (a b : Str) (p q r : Bool) : PyData.eqv (EDat.enc (r := (yU (z5 yS yS zB zB zB) (z1 yS))) (.inl (a, b, p, q, r))) (EDat.enc (r := (z5 yS yS zB zB zB)) (a, b, p, q, r)) = true := by
  show PyData.eqv (.tuple [.str a, .str b, .bool p, .bool q, .bool r]) (.tuple [.str a, .str b, .bool p, .bool q, .bool r]) = true
  simp [PyData.eqv, PyData.eqvAll]
end
section
/-- texts that are no words -/
theorem bad8 : ∀ y ∈ ([("" : Str), ("A" : Str), ("1a" : Str), ("a_b" : Str), ("a b" : Str), ("abcdefghijklm" : Str), ("aB" : Str), ("a-" : Str)]), wd y.cps.toList = false := by decide +kernel
theorem bad6 : ∀ y ∈ ([("" : Str), ("Z" : Str), ("9z" : Str), ("z_" : Str), ("z z" : Str), ("zzzzzzzzzzzzz" : Str)]), wd y.cps.toList = false := by decide +kernel
end
section
/-- what is refused is refused as it is due -/
theorem told_word {A B : List (Str × Int)} {x : Str × Int} {N : Nat} {Q : Bool → Prop} {X : HE → Prop} (hN : N < 1000) (hA : RowsK N A) (hz : wd x.1.cps.toList = false) (h : Q true) : m__law_refused (A ++ x :: B) (fun v33 => Q (PyData.eqv (EDat.enc (r := (yU (z5 yS yS zB zB zB) (z1 yS))) v33) (EDat.enc (r := (z5 yS yS zB zB zB)) ("BadWord", x.1, false, true, true)))) X := by
  refine refused_word hN hA hz ?_
  rw [eqv_five]
  exact h
theorem told_double {A B : List (Str × Int)} {x : Str × Int} {N : Nat} {Q : Bool → Prop} {X : HE → Prop} (hN : N < 1000) (hA : RowsK N A) (hz : Wd x.1) (hm : x.1 ∈ A.map (·.1)) (h : Q true) : m__law_refused (A ++ x :: B) (fun v33 => Q (PyData.eqv (EDat.enc (r := (yU (z5 yS yS zB zB zB) (z1 yS))) v33) (EDat.enc (r := (z5 yS yS zB zB zB)) ("DoubleName", x.1, false, true, true)))) X := by
  refine refused_double hN hA hz hm ?_
  rw [eqv_five]
  exact h
theorem RowsK.pre {N n : Nat} {r : List (Str × Int)} (h : RowsK N r) : RowsK N (r.take n) := ⟨(List.Sublist.map _ (List.take_sublist n r)).nodup h.nd, fun y hy => h.wd y (List.mem_of_mem_take hy), by
  rw [List.length_take]
  have := h.len
  omega⟩
theorem rowsK_nil : RowsK 0 [] := ⟨.nil, (fun y hy => nomatch hy), Nat.le_refl _⟩
end
section
/-- due8 tells: the row list, cut somewhere, with the wrong pair between, is refused with this tuple -/
def DueK (r : List (Str × Int)) (t : Int × Str × (Str × Str × Bool × Bool × Bool)) : Prop := ∃ n : Nat, t.1 = n ∧ n ≤ r.length ∧ ((wd t.2.1.cps.toList = false ∧ t.2.2 = (("BadWord" : Str), t.2.1, false, true, true)) ∨ (Wd t.2.1 ∧ t.2.1 ∈ (r.take n).map (·.1) ∧ t.2.2 = (("DoubleName" : Str), t.2.1, false, true, true)))
theorem wrong_tail {r : List (Str × Int)} (hr : RowsK 8 r) {t : Int × Str × (Str × Str × Bool × Bool × Bool)} (ht : DueK r t) {C : List (Str × Int)} {Q : Bool → Prop} {X : HE → Prop} (h : Q true) :
    m__law_refused (((r.take t.1.toNat ++ [(t.2.1, (1 : Int))]) ++ r.drop t.1.toNat) ++ C) (fun v33 => Q (PyData.eqv (EDat.enc (r := (yU (z5 yS yS zB zB zB) (z1 yS))) v33) (EDat.enc (r := (z5 yS yS zB zB zB)) t.2.2))) X := by
  obtain ⟨n, e1, hn, hd⟩ := ht
  rw [e1, Int.toNat_natCast]
  have e : ((r.take n ++ [(t.2.1, (1 : Int))]) ++ r.drop n) ++ C = r.take n ++ (t.2.1, (1 : Int)) :: (r.drop n ++ C) := by simp
  rw [e]
  have ht : RowsK 8 (r.take n) := hr.pre
  rcases hd with ⟨h1, h2⟩ | ⟨h1, h2, h3⟩
  · rw [h2]
    exact told_word (x := (t.2.1, (1 : Int))) (by decide) ht h1 h
  · rw [h3]
    exact told_double (x := (t.2.1, (1 : Int))) (by decide) ht h1 h2 h
theorem wrong_ok {r : List (Str × Int)} (hr : RowsK 8 r) {Q : Bool → Prop} {X : HE → Prop} (h : Q true) : m__law_wrong_list r Q X := by
  have hl := hr.len
  have hb : big = 100000 := rfl
  have big40 : (1000 : Int) ≤ 10 ^ 40 := by decide
  unfold m__law_wrong_list
  refine draw_ok (by omega) (by omega) fun at0 hat0 => draw_ok (by decide) (by decide) fun w hw => ?_
  have hw : w < 8 := by omega
  refine ⟨_, atI_nat (List.getElem?_eq_getElem (by exact hw)), fun due5 e5 => ?_⟩
  have b8 := bad8 _ (List.getElem_mem (l := [("" : Str), ("A" : Str), ("1a" : Str), ("a_b" : Str), ("a b" : Str), ("abcdefghijklm" : Str), ("aB" : Str), ("a-" : Str)]) (n := w) hw)
  generalize ([("" : Str), ("A" : Str), ("1a" : Str), ("a_b" : Str), ("a b" : Str), ("abcdefghijklm" : Str), ("aB" : Str), ("a-" : Str)])[w]'hw = v4 at b8 e5 ⊢
  have go : ∀ t, DueK r t → (fun s6 : Int × Str × (Str × Str × Bool × Bool × Bool) =>
  ((cutX r none (some s6.1))).length + ([(s6.2.1, (1 : Int))]).length ≤ big ∧
  (((cutX r none (some s6.1)) ++ [(s6.2.1, (1 : Int))])).length + ((cutX r (some s6.1) none)).length ≤ big ∧
  ∀ spoilt20, spoilt20 = (((cutX r none (some s6.1)) ++ [(s6.2.1, (1 : Int))]) ++ (cutX r (some s6.1) none)) →
  m_draw (3 : Int) (fun v21 =>
  m_draw (6 : Int) (fun v22 =>
  ∃ v23, atI ([("" : Str), ("Z" : Str), ("9z" : Str), ("z_" : Str), ("z z" : Str), ("zzzzzzzzzzzzz" : Str)]) v22 = some v23 ∧
  joinD (fun j25 =>
  ifD (decide (v21 = (1 : Int))) (
  (spoilt20).length + ([(v23, (2 : Int))]).length ≤ big ∧
  ∀ spoilt27, spoilt27 = (spoilt20 ++ [(v23, (2 : Int))]) →
  j25 spoilt27) (
  j25 spoilt20)) (fun s24 : (List (Str × Int)) =>
  joinD (fun j29 =>
  ifD (decide (v21 = (2 : Int))) (
  ([(v23, (2 : Int))]).length + (s24).length ≤ big ∧
  ∀ spoilt31, spoilt31 = ([(v23, (2 : Int))] ++ s24) →
  ∀ due32, due32 = (("BadWord" : Str), v23, false, true, true) →
  j29 (due32, spoilt31)) (
  j29 (s6.2.2, s24))) (fun s28 : (Str × Str × Bool × Bool × Bool) × (List (Str × Int)) =>
  m__law_refused s28.2 (fun v33 =>
  Q (PyData.eqv (EDat.enc (r := (yU (z5 yS yS zB zB zB) (z1 yS))) v33) (EDat.enc (r := (z5 yS yS zB zB zB)) s28.1))) noX))) noX) noX) t := by
    intro t ht
    have ht2 := ht
    obtain ⟨n, e1, hn, -⟩ := ht2
    have c1 : cutX r none (some t.1) = r.take t.1.toNat := by rw [e1, Int.toNat_natCast]; exact cutX_take r n
    have c2 : cutX r (some t.1) none = r.drop t.1.toNat := by rw [e1, Int.toNat_natCast]; exact cutX_drop r n
    show ((cutX r none (some t.1))).length + ([(t.2.1, (1 : Int))]).length ≤ big ∧ _
    rw [c1, c2]
    have ll : ((r.take t.1.toNat ++ [(t.2.1, (1 : Int))]) ++ r.drop t.1.toNat).length = r.length + 1 := by
      rw [List.length_append, List.length_append, List.length_take, List.length_drop, e1, Int.toNat_natCast]
      show min n r.length + 1 + (r.length - n) = _
      omega
    refine ⟨?_, ?_, fun sp esp => draw_ok (by decide) (by decide) fun wh hwh => draw_ok (by decide) (by decide) fun x hx => ?_⟩
    · have := List.length_take_le t.1.toNat r
      show _ + 1 ≤ _
      have h3 : (r.take t.1.toNat).length ≤ r.length := by rw [List.length_take]; omega
      omega
    · rw [← List.length_append, ll]
      omega
    · have hx : x < 6 := by omega
      refine ⟨_, atI_nat (List.getElem?_eq_getElem (by exact hx)), ?_⟩
      have b6 := bad6 _ (List.getElem_mem (l := [("" : Str), ("Z" : Str), ("9z" : Str), ("z_" : Str), ("z z" : Str), ("zzzzzzzzzzzzz" : Str)]) (n := x) hx)
      generalize ([("" : Str), ("Z" : Str), ("9z" : Str), ("z_" : Str), ("z z" : Str), ("zzzzzzzzzzzzz" : Str)])[x]'hx = v23 at b6 ⊢
      have sl : sp.length = r.length + 1 := by rw [esp, ll]
      unfold joinD
      refine ⟨fun q => ⟨?_, fun sp2 e2 => ?_⟩, fun q => ?_⟩
      · show _ + 1 ≤ _
        omega
      · have q := of_decide_eq_true q
        refine ifD_f (by rw [decide_eq_false (by omega)]) ?_
        rw [e2, esp]
        exact wrong_tail hr ht h
      · refine ⟨fun q2 => ⟨?_, fun sp2 e2 due2 e3 => ?_⟩, fun q2 => ?_⟩
        · show 1 + _ ≤ _
          omega
        · rw [e3, e2]
          exact told_word (A := []) (B := sp) (x := (v23, (2 : Int))) (by decide) rowsK_nil b6 h
        · rw [esp, ← List.append_nil ((r.take t.1.toNat ++ [(t.2.1, (1 : Int))]) ++ r.drop t.1.toNat)]
          exact wrong_tail hr ht h
  have go0 : DueK r ((at0 : Int), v4, due5) := ⟨at0, rfl, by omega, .inl ⟨b8, e5⟩⟩
  unfold joinD at go ⊢
  by_cases er : r = []
  · subst er
    exact ⟨(fun q => nomatch q), fun _ => ifD_f rfl (go _ go0)⟩
  · have hp := pos_of_ne er
    refine ⟨fun _ => draw_ok (by decide) (by decide) fun d hd => ⟨fun _ => draw_ok (by omega) (by omega) fun i hi => ?_, fun _ => go _ go0⟩, fun _ => ifD_f rfl (go _ go0)⟩
    have hi : i < r.length := by omega
    refine ⟨_, atI_nat (List.getElem?_eq_getElem hi), draw_ok (by omega) (by omega) fun j hj at16 e16 due17 e17 => go _ ⟨i + 1 + j, by dsimp only; omega, by omega, .inr ⟨hr.wd _ (List.getElem_mem hi), ?_, e17⟩⟩⟩
    refine List.mem_map.mpr ⟨r[i], ?_, rfl⟩
    have : (r.take (i + 1 + j))[i]? = some r[i] := by
      rw [List.getElem?_take_of_lt (by omega), List.getElem?_eq_getElem hi]
    exact List.mem_of_getElem? this
end
section
theorem shown_row {y : Str × Int} (hw : Wd y.1) (hb : y.2.natAbs < 10 ^ 19) : (EDat.enc (r := (z2 yS zI)) y).showable = true ∧ (EDat.enc (r := (z2 yS zI)) y).hasDict = false ∧ (EDat.enc (r := (z2 yS zI)) y).depth ≤ 1 ∧ (EDat.enc (r := (z2 yS zI)) y).leavesShort 100 = true ∧ (EDat.enc (r := (z2 yS zI)) y).bulk ≤ 14 := by
  show (PyData.tuple [.str y.1, .int y.2]).showable = true ∧ (PyData.tuple [.str y.1, .int y.2]).hasDict = false ∧ (PyData.tuple [.str y.1, .int y.2]).depth ≤ 1 ∧ (PyData.tuple [.str y.1, .int y.2]).leavesShort 100 = true ∧ (PyData.tuple [.str y.1, .int y.2]).bulk ≤ 14
  obtain ⟨c, r, e, hc, ho, hl⟩ := wd_inv hw
  refine ⟨?_, rfl, Nat.le_refl _, ?_, ?_⟩
  · show (true && (decide (y.2.natAbs.log2 < 1920) && true)) = true
    rw [Bool.true_and, Bool.and_true, decide_eq_true_iff]
    by_cases z : y.2.natAbs = 0
    · rw [z]; decide
    · rw [Nat.log2_lt z]
      exact Nat.lt_trans hb (by decide +kernel)
  · show ((y.1.cps.toList.all fun c => decide (c < 16 ^ 8)) && (decide ((PyData.shown (.int y.2)).length ≤ 100) && true)) = true
    rw [Bool.and_true, Bool.and_eq_true, decide_eq_true_iff]
    refine ⟨List.all_eq_true.mpr fun d hd => decide_eq_true ?_, ?_⟩
    · have := ho d hd
      have h2 : ∀ d : Nat, okc d = true → d < 16 ^ 8 := fun d h => by
        unfold okc at h
        rw [Bool.or_eq_true, decide_eq_true_iff, decide_eq_true_iff] at h
        have a : ∀ d ∈ LETTERS.cps.toList, d < 16 ^ 8 := by decide +kernel
        have b : ∀ d ∈ DIGITS.cps.toList, d < 16 ^ 8 := by decide +kernel
        exact h.elim (a d) (b d)
      exact h2 d this
    · show (Str.ofString (toString y.2)).length ≤ 100
      rw [PySem.ofString_length]
      exact Nat.le_trans (int_text_length_le10 (k := 19) (by decide) hb) (by decide)
  · show y.1.cps.size + 1 + (0 + 1 + 0) ≤ 14
    have : y.1.cps.size = y.1.cps.toList.length := rfl
    omega
theorem shown_rows : ∀ {l : List (Str × Int)}, (∀ y ∈ l, Wd y.1 ∧ y.2.natAbs < 10 ^ 19) → PyData.showableAll (l.map (EDat.enc (r := (z2 yS zI)))) = true ∧ PyData.hasDictAll (l.map (EDat.enc (r := (z2 yS zI)))) = false ∧ PyData.depthAll (l.map (EDat.enc (r := (z2 yS zI)))) ≤ 1 ∧ PyData.leavesShortAll 100 (l.map (EDat.enc (r := (z2 yS zI)))) = true ∧ PyData.bulkAll (l.map (EDat.enc (r := (z2 yS zI)))) ≤ 15 * l.length
  | [], _ => ⟨rfl, rfl, Nat.zero_le _, rfl, Nat.le_refl _⟩
  | y :: l, h => by
    obtain ⟨a1, a2, a3, a4, a5⟩ := shown_row (h y (List.mem_cons_self ..)).1 (h y (List.mem_cons_self ..)).2
    obtain ⟨b1, b2, b3, b4, b5⟩ := shown_rows (l := l) fun x hx => h x (List.mem_cons_of_mem _ hx)
    rw [List.map_cons]
    generalize EDat.enc (r := (z2 yS zI)) y = d at *
    simp only [PyData.showableAll, PyData.hasDictAll, PyData.depthAll, PyData.leavesShortAll, PyData.bulkAll, List.length_cons, a1, a2, a4, b1, b2, b4]
    refine ⟨rfl, rfl, by omega, rfl, by omega⟩
theorem repr_ok {l : List (Str × Int)} {k : PyData → Prop} (hl : l.length ≤ 60) (h : ∀ y ∈ l, Wd y.1 ∧ y.2.natAbs < 10 ^ 19) (hk : k (.list (l.map (EDat.enc (r := (z2 yS zI)))))) : reprD (.list (l.map (EDat.enc (r := (z2 yS zI))))) k := by
  obtain ⟨b1, b2, b3, b4, b5⟩ := shown_rows h
  refine ⟨⟨b1, b2, ?_, ?_⟩, hk⟩
  · show PyData.depthAll _ + 1 ≤ 64
    omega
  · have := PyData.shown_le_bulk 100 (by decide) (.list (l.map (EDat.enc (r := (z2 yS zI))))) b4
    have e : PyData.bulk (.list (l.map (EDat.enc (r := (z2 yS zI))))) = PyData.bulkAll (l.map (EDat.enc (r := (z2 yS zI)))) := by simp only [PyData.bulk]
    rw [e] at this
    have hb : big = 100000 := rfl
    omega
theorem rowsF_same {r : List (Str × Int)} {ys zs : List Str} (p1 : ys.Perm ((clean r).map (·.1))) (s1 : PyProof.Rows.sortedS ys = true) (p2 : zs.Perm ((clean r).map (·.1))) (s2 : PyProof.Rows.sortedS zs = true) : rowsF r ys = rowsF r zs := by
  rw [sorted_uni (p1.trans p2.symm) s1 s2]
theorem law_pure : m_law (· = true) noX := by
  unfold m_law
  have hb : big = 100000 := rfl
  refine rowsL_ok (fun y hy => nomatch hy) (by decide) fun r hr => ?_
  refine rowsL_ok (fun y hy => ?_) (by rw [List.length_map]; exact hr.len) fun s hs => ?_
  · obtain ⟨x, hx, rfl⟩ := List.mem_map.mp hy
    exact hr.wd x hx
  have rl := hr.len
  have sl := hs.len
  refine ⟨by omega, fresh_ok (by rw [List.length_map, List.length_append]; omega) fun z hz hzn => ?_⟩
  have zr : z ∉ r.map (·.1) := fun q => hzn (by rw [List.map_append]; exact List.mem_append_left _ q)
  have zs : z ∉ s.map (·.1) := fun q => hzn (by rw [List.map_append]; exact List.mem_append_right _ q)
  refine init_ok (by decide) hr.toRowsK fun _ => init_ok (by decide) hs.toRowsK fun _ => ⟨by omega, ?_⟩
  refine values_ok hr.nd zr (by omega) ?_
  refine orD_ok (c := false) (fun _ k hk => values_ok hs.nd zs (by omega) hk) (ifD_f rfl ?_)
  refine rowsN_ok hr.nd (by omega) fun ys p1 s1 => ?_
  refine orD_ok (c := false) (fun _ k hk => lsorted_ok hr.nd (by omega) fun zs p2 s2 => ?_) (ifD_f rfl ?_)
  · rw [rowsF_same p1 s1 p2 s2, decide_eq_true rfl]
    exact hk
  have yl : (rowsF r ys).length ≤ 8 := by
    unfold rowsF
    rw [List.length_map, p1.length_eq, List.length_map]
    exact Nat.le_trans (clean_sub r).length_le rl
  have ok : ∀ y ∈ rowsF r ys ++ [(z, (7 : Int))], Wd y.1 ∧ y.2.natAbs < 10 ^ 19 := fun y hy => by
    rcases List.mem_append.mp hy with q | q
    · obtain ⟨w, hw, rfl⟩ := List.mem_map.mp q
      obtain ⟨x, hx, rfl⟩ := List.mem_map.mp (p1.mem_iff.mp hw)
      have hx := (clean_sub r).subset hx
      refine ⟨hr.wd x hx, ?_⟩
      show (tv r x.1).natAbs < _
      rw [tv_in hr.nd hx]
      have := hr.bd x hx
      have e : (10 : Nat) ^ 19 = 10 * 10 ^ 18 := by decide
      have e2 : ((10 ^ 18 : Nat) : Int) = (10 : Int) ^ 18 := by decide
      omega
    · rw [List.mem_singleton.mp q]
      exact ⟨hz, (by decide : ((7 : Int)).natAbs < 10 ^ 19)⟩
  refine ⟨by omega, repr_ok (by rw [List.length_append]; show _ + 1 ≤ 60; omega) ok ?_⟩
  refine neg_ok (by decide) hr.toRowsK ?_
  have km : (r.map fun x => (x.1, -x.2)).map (·.1) = r.map (·.1) := by rw [List.map_map]; rfl
  refine values_ok (by rw [km]; exact hr.nd) (by rw [km]; exact zr) (by rw [List.length_map]; omega) (ifD_f rfl ?_)
  refine loop_ok hs.nd hr.lim ?_
  refine dot_ok hr.nd hs.nd hr.lim (isint_ok ?_)
  refine orD_ok (c := false) (fun _ k hk => dot_ok hr.nd hs.nd hr.lim ?_) (ifD_f rfl ?_)
  · rw [decide_eq_true rfl]
    refine orD_ok (c := false) (fun _ k2 hk2 => dot_ok hs.nd hr.nd hs.lim ?_) hk
    rw [dot_comm hs.nd hr.nd, decide_eq_true rfl]
    exact hk2
  refine rows_ok hr.nd (by omega) fun ys2 p2 s2 => lsorted_ok hr.nd (by omega) fun ys3 p3 s3 => ?_
  rw [rowsF_same p2 s2 p3 s3, decide_eq_true rfl]
  refine orD_ok (c := false) (fun _ k hk => rows_ok hs.nd (by omega) fun zs2 q2 t2 => lsorted_ok hs.nd (by omega) fun zs3 q3 t3 => ?_) (ifD_f rfl ?_)
  · rw [rowsF_same q2 t2 q3 t3, decide_eq_true rfl]
    refine orD_ok (c := false) (fun _ k2 hk2 => repr_ok (by rw [List.length_append]; show _ + 1 ≤ 60; omega) ok ?_) hk
    rw [decide_eq_true rfl]
    exact hk2
  refine values_ok hr.nd zr (by omega) (andD_ok (c := true) (fun _ k hk => wrong_ok hr.toRowsK hk) rfl)
end
theorem all_mk {P : Program} {w : World} {K : PySem.W.Frag} {h : Heap} {mg : Str → Option Value} {fa : Addr} (X : K.In h) (G : h.Ns mainGlobals mg) (hfa : mg "law" = some (.ref fa)) (top : (P.main.scope.names.lookup ("super" : Str)).isSome = false)
    {t_MOST_SIGNS : Tok}
    {t_LETTERS : Tok}
    {t_DIGITS : Tok}
    {f__law_box : Addr} {od__law_box an__law_box : Option Addr} {sl__law_box : Array (Option Value)} {oc__law_box kV__law_box dc__law_box pm__law_box cd__law_box ct__law_box : Value}
    {f__law_draw : Addr} {od__law_draw an__law_draw : Option Addr} {sl__law_draw : Array (Option Value)} {oc__law_draw kV__law_draw dc__law_draw pm__law_draw cd__law_draw ct__law_draw : Value}
    {f__law_word : Addr} {od__law_word an__law_word : Option Addr} {sl__law_word : Array (Option Value)} {oc__law_word kV__law_word dc__law_word pm__law_word cd__law_word ct__law_word : Value}
    {f__law_fresh : Addr} {od__law_fresh an__law_fresh : Option Addr} {sl__law_fresh : Array (Option Value)} {oc__law_fresh kV__law_fresh dc__law_fresh pm__law_fresh cd__law_fresh ct__law_fresh : Value}
    {f_is_word : Addr} {od_is_word an_is_word : Option Addr} {sl_is_word : Array (Option Value)} {oc_is_word kV_is_word dc_is_word pm_is_word cd_is_word ct_is_word : Value}
    {f_check_word : Addr} {od_check_word an_check_word : Option Addr} {sl_check_word : Array (Option Value)} {oc_check_word kV_check_word dc_check_word pm_check_word cd_check_word ct_check_word : Value}
    {f__law_number : Addr} {od__law_number an__law_number : Option Addr} {sl__law_number : Array (Option Value)} {oc__law_number kV__law_number dc__law_number pm__law_number cd__law_number ct__law_number : Value}
    {f__law_rows : Addr} {od__law_rows an__law_rows : Option Addr} {sl__law_rows : Array (Option Value)} {oc__law_rows kV__law_rows dc__law_rows pm__law_rows cd__law_rows ct__law_rows : Value}
    {f__law_is_int : Addr} {od__law_is_int an__law_is_int : Option Addr} {sl__law_is_int : Array (Option Value)} {oc__law_is_int kV__law_is_int dc__law_is_int pm__law_is_int cd__law_is_int ct__law_is_int : Value}
    {f__law_refused : Addr} {od__law_refused an__law_refused : Option Addr} {sl__law_refused : Array (Option Value)} {oc__law_refused kV__law_refused dc__law_refused pm__law_refused cd__law_refused ct__law_refused : Value}
    {f__law_wrong_list : Addr} {od__law_wrong_list an__law_wrong_list : Option Addr} {sl__law_wrong_list : Array (Option Value)} {oc__law_wrong_list kV__law_wrong_list dc__law_wrong_list pm__law_wrong_list cd__law_wrong_list ct__law_wrong_list : Value}
    {f__law_values : Addr} {od__law_values an__law_values : Option Addr} {sl__law_values : Array (Option Value)} {oc__law_values kV__law_values dc__law_values pm__law_values cd__law_values ct__law_values : Value}
    {f__law_sorted : Addr} {od__law_sorted an__law_sorted : Option Addr} {sl__law_sorted : Array (Option Value)} {oc__law_sorted kV__law_sorted dc__law_sorted pm__law_sorted cd__law_sorted ct__law_sorted : Value}
    {f_law : Addr} {od_law an_law : Option Addr} {sl_law : Array (Option Value)} {oc_law kV_law dc_law pm_law cd_law ct_law : Value}
    {C_HeldError : Addr}
    {C_BadWord fI_BadWord N_BadWord cda_BadWord cc_BadWord : Addr} {nm_BadWord q_BadWord file_BadWord : Str} {bs_BadWord bm_BadWord sub_BadWord : List Value} {sn_BadWord : List Str} {ab_BadWord : Bool} {col_BadWord : Option Bool} {dd_BadWord od_BadWord an_BadWord cdd_BadWord cld_BadWord : Option Addr} {m0_BadWord m1_BadWord m2_BadWord m3_BadWord m5_BadWord : Option Value} {oc_BadWord kV_BadWord dc_BadWord pm_BadWord ct_BadWord ccl_BadWord cl_BadWord : Value} {sl_BadWord ccs_BadWord csl_BadWord : Array (Option Value)} {vs_BadWord : Array Value} {tf_BadWord : Tok}
    {C_DoubleName fI_DoubleName N_DoubleName cda_DoubleName cc_DoubleName : Addr} {nm_DoubleName q_DoubleName file_DoubleName : Str} {bs_DoubleName bm_DoubleName sub_DoubleName : List Value} {sn_DoubleName : List Str} {ab_DoubleName : Bool} {col_DoubleName : Option Bool} {dd_DoubleName od_DoubleName an_DoubleName cdd_DoubleName cld_DoubleName : Option Addr} {m0_DoubleName m1_DoubleName m2_DoubleName m3_DoubleName m5_DoubleName : Option Value} {oc_DoubleName kV_DoubleName dc_DoubleName pm_DoubleName ct_DoubleName ccl_DoubleName cl_DoubleName : Value} {sl_DoubleName ccs_DoubleName csl_DoubleName : Array (Option Value)} {vs_DoubleName : Array Value} {tf_DoubleName : Tok}
    {C_Tally : Addr}
    {f_Tally___init__ : Addr} {od_Tally___init__ an_Tally___init__ : Option Addr} {sl_Tally___init__ : Array (Option Value)} {oc_Tally___init__ kV_Tally___init__ dc_Tally___init__ pm_Tally___init__ cd_Tally___init__ ct_Tally___init__ : Value}
    {f_Tally___getitem__ : Addr} {od_Tally___getitem__ an_Tally___getitem__ : Option Addr} {sl_Tally___getitem__ : Array (Option Value)} {oc_Tally___getitem__ kV_Tally___getitem__ dc_Tally___getitem__ pm_Tally___getitem__ cd_Tally___getitem__ ct_Tally___getitem__ : Value}
    {f_Tally___contains__ : Addr} {od_Tally___contains__ an_Tally___contains__ : Option Addr} {sl_Tally___contains__ : Array (Option Value)} {oc_Tally___contains__ kV_Tally___contains__ dc_Tally___contains__ pm_Tally___contains__ cd_Tally___contains__ ct_Tally___contains__ : Value}
    {f_Tally___len__ : Addr} {od_Tally___len__ an_Tally___len__ : Option Addr} {sl_Tally___len__ : Array (Option Value)} {oc_Tally___len__ kV_Tally___len__ dc_Tally___len__ pm_Tally___len__ cd_Tally___len__ ct_Tally___len__ : Value}
    {f_Tally___bool__ : Addr} {od_Tally___bool__ an_Tally___bool__ : Option Addr} {sl_Tally___bool__ : Array (Option Value)} {oc_Tally___bool__ kV_Tally___bool__ dc_Tally___bool__ pm_Tally___bool__ cd_Tally___bool__ ct_Tally___bool__ : Value}
    {f_Tally___abs__ : Addr} {od_Tally___abs__ an_Tally___abs__ : Option Addr} {sl_Tally___abs__ : Array (Option Value)} {oc_Tally___abs__ kV_Tally___abs__ dc_Tally___abs__ pm_Tally___abs__ cd_Tally___abs__ ct_Tally___abs__ : Value}
    {f_Tally_rows : Addr} {od_Tally_rows an_Tally_rows : Option Addr} {sl_Tally_rows : Array (Option Value)} {oc_Tally_rows kV_Tally_rows dc_Tally_rows pm_Tally_rows cd_Tally_rows ct_Tally_rows : Value}
    {f_Tally_dot : Addr} {od_Tally_dot an_Tally_dot : Option Addr} {sl_Tally_dot : Array (Option Value)} {oc_Tally_dot kV_Tally_dot dc_Tally_dot pm_Tally_dot cd_Tally_dot ct_Tally_dot : Value}
    {f_Tally___neg__ : Addr} {od_Tally___neg__ an_Tally___neg__ : Option Addr} {sl_Tally___neg__ : Array (Option Value)} {oc_Tally___neg__ kV_Tally___neg__ dc_Tally___neg__ pm_Tally___neg__ cd_Tally___neg__ ct_Tally___neg__ : Value}
    (z_len : PySem.W.nsIn K mainGlobals "len" = some none)
    (z_range : PySem.W.nsIn K mainGlobals "range" = some none)
    (z_abs : PySem.W.nsIn K mainGlobals "abs" = some none)
    (z_sum : PySem.W.nsIn K mainGlobals "sum" = some none)
    (z_sorted : PySem.W.nsIn K mainGlobals "sorted" = some none)
    (z_isinstance : PySem.W.nsIn K mainGlobals "isinstance" = some none)
    (z_zip : PySem.W.nsIn K mainGlobals "zip" = some none)
    (z_enumerate : PySem.W.nsIn K mainGlobals "enumerate" = some none)
    (z_reversed : PySem.W.nsIn K mainGlobals "reversed" = some none)
    (z_int : PySem.W.nsIn K mainGlobals "int" = some none)
    (z_str : PySem.W.nsIn K mainGlobals "str" = some none)
    (z_list : PySem.W.nsIn K mainGlobals "list" = some none)
    (z_tuple : PySem.W.nsIn K mainGlobals "tuple" = some none)
    (z_bool : PySem.W.nsIn K mainGlobals "bool" = some none)
    (z_all : PySem.W.nsIn K mainGlobals "all" = some none)
    (z_any : PySem.W.nsIn K mainGlobals "any" = some none)
    (z_ValueError : PySem.W.nsIn K mainGlobals "ValueError" = some none)
    (z_super : PySem.W.nsIn K mainGlobals "super" = some none)
    (z_repr : PySem.W.nsIn K mainGlobals "repr" = some none)
    (a_MOST_SIGNS : PySem.W.nsIn K mainGlobals "MOST_SIGNS" = some (some (.int (12 : Int) t_MOST_SIGNS)))
    (a_LETTERS : PySem.W.nsIn K mainGlobals "LETTERS" = some (some (.str LETTERS t_LETTERS)))
    (a_DIGITS : PySem.W.nsIn K mainGlobals "DIGITS" = some (some (.str DIGITS t_DIGITS)))
    (a__law_box : PySem.W.nsIn K mainGlobals "_law_box" = some (some (.ref f__law_box)))
    (l__law_box : K.lookup f__law_box = some ⟨oc__law_box, od__law_box, .func (PySem.W.fnOf "_law_box" "_law_box" (defArgs s__law_box) (defBody s__law_box) (defScope s__law_box) .none kV__law_box dc__law_box pm__law_box an__law_box cd__law_box ct__law_box), sl__law_box⟩)
    (c__law_box : PySem.W.codeIn K cd__law_box "_law_box" = true)
    (k__law_box : PySem.W.keepIn K (.ref f__law_box) = true)
    (a__law_draw : PySem.W.nsIn K mainGlobals "_law_draw" = some (some (.ref f__law_draw)))
    (l__law_draw : K.lookup f__law_draw = some ⟨oc__law_draw, od__law_draw, .func (PySem.W.fnOf "_law_draw" "_law_draw" (defArgs s__law_draw) (defBody s__law_draw) (defScope s__law_draw) .none kV__law_draw dc__law_draw pm__law_draw an__law_draw cd__law_draw ct__law_draw), sl__law_draw⟩)
    (c__law_draw : PySem.W.codeIn K cd__law_draw "_law_draw" = true)
    (k__law_draw : PySem.W.keepIn K (.ref f__law_draw) = true)
    (a__law_word : PySem.W.nsIn K mainGlobals "_law_word" = some (some (.ref f__law_word)))
    (l__law_word : K.lookup f__law_word = some ⟨oc__law_word, od__law_word, .func (PySem.W.fnOf "_law_word" "_law_word" (defArgs s__law_word) (defBody s__law_word) (defScope s__law_word) .none kV__law_word dc__law_word pm__law_word an__law_word cd__law_word ct__law_word), sl__law_word⟩)
    (c__law_word : PySem.W.codeIn K cd__law_word "_law_word" = true)
    (k__law_word : PySem.W.keepIn K (.ref f__law_word) = true)
    (a__law_fresh : PySem.W.nsIn K mainGlobals "_law_fresh" = some (some (.ref f__law_fresh)))
    (l__law_fresh : K.lookup f__law_fresh = some ⟨oc__law_fresh, od__law_fresh, .func (PySem.W.fnOf "_law_fresh" "_law_fresh" (defArgs s__law_fresh) (defBody s__law_fresh) (defScope s__law_fresh) .none kV__law_fresh dc__law_fresh pm__law_fresh an__law_fresh cd__law_fresh ct__law_fresh), sl__law_fresh⟩)
    (c__law_fresh : PySem.W.codeIn K cd__law_fresh "_law_fresh" = true)
    (k__law_fresh : PySem.W.keepIn K (.ref f__law_fresh) = true)
    (a_is_word : PySem.W.nsIn K mainGlobals "is_word" = some (some (.ref f_is_word)))
    (l_is_word : K.lookup f_is_word = some ⟨oc_is_word, od_is_word, .func (PySem.W.fnOf "is_word" "is_word" (defArgs s_is_word) (defBody s_is_word) (defScope s_is_word) .none kV_is_word dc_is_word pm_is_word an_is_word cd_is_word ct_is_word), sl_is_word⟩)
    (c_is_word : PySem.W.codeIn K cd_is_word "is_word" = true)
    (k_is_word : PySem.W.keepIn K (.ref f_is_word) = true)
    (a_check_word : PySem.W.nsIn K mainGlobals "check_word" = some (some (.ref f_check_word)))
    (l_check_word : K.lookup f_check_word = some ⟨oc_check_word, od_check_word, .func (PySem.W.fnOf "check_word" "check_word" (defArgs s_check_word) (defBody s_check_word) (defScope s_check_word) .none kV_check_word dc_check_word pm_check_word an_check_word cd_check_word ct_check_word), sl_check_word⟩)
    (c_check_word : PySem.W.codeIn K cd_check_word "check_word" = true)
    (k_check_word : PySem.W.keepIn K (.ref f_check_word) = true)
    (a__law_number : PySem.W.nsIn K mainGlobals "_law_number" = some (some (.ref f__law_number)))
    (l__law_number : K.lookup f__law_number = some ⟨oc__law_number, od__law_number, .func (PySem.W.fnOf "_law_number" "_law_number" (defArgs s__law_number) (defBody s__law_number) (defScope s__law_number) .none kV__law_number dc__law_number pm__law_number an__law_number cd__law_number ct__law_number), sl__law_number⟩)
    (c__law_number : PySem.W.codeIn K cd__law_number "_law_number" = true)
    (k__law_number : PySem.W.keepIn K (.ref f__law_number) = true)
    (a__law_rows : PySem.W.nsIn K mainGlobals "_law_rows" = some (some (.ref f__law_rows)))
    (l__law_rows : K.lookup f__law_rows = some ⟨oc__law_rows, od__law_rows, .func (PySem.W.fnOf "_law_rows" "_law_rows" (defArgs s__law_rows) (defBody s__law_rows) (defScope s__law_rows) .none kV__law_rows dc__law_rows pm__law_rows an__law_rows cd__law_rows ct__law_rows), sl__law_rows⟩)
    (c__law_rows : PySem.W.codeIn K cd__law_rows "_law_rows" = true)
    (k__law_rows : PySem.W.keepIn K (.ref f__law_rows) = true)
    (a__law_is_int : PySem.W.nsIn K mainGlobals "_law_is_int" = some (some (.ref f__law_is_int)))
    (l__law_is_int : K.lookup f__law_is_int = some ⟨oc__law_is_int, od__law_is_int, .func (PySem.W.fnOf "_law_is_int" "_law_is_int" (defArgs s__law_is_int) (defBody s__law_is_int) (defScope s__law_is_int) .none kV__law_is_int dc__law_is_int pm__law_is_int an__law_is_int cd__law_is_int ct__law_is_int), sl__law_is_int⟩)
    (c__law_is_int : PySem.W.codeIn K cd__law_is_int "_law_is_int" = true)
    (k__law_is_int : PySem.W.keepIn K (.ref f__law_is_int) = true)
    (a__law_refused : PySem.W.nsIn K mainGlobals "_law_refused" = some (some (.ref f__law_refused)))
    (l__law_refused : K.lookup f__law_refused = some ⟨oc__law_refused, od__law_refused, .func (PySem.W.fnOf "_law_refused" "_law_refused" (defArgs s__law_refused) (defBody s__law_refused) (defScope s__law_refused) .none kV__law_refused dc__law_refused pm__law_refused an__law_refused cd__law_refused ct__law_refused), sl__law_refused⟩)
    (c__law_refused : PySem.W.codeIn K cd__law_refused "_law_refused" = true)
    (k__law_refused : PySem.W.keepIn K (.ref f__law_refused) = true)
    (a__law_wrong_list : PySem.W.nsIn K mainGlobals "_law_wrong_list" = some (some (.ref f__law_wrong_list)))
    (l__law_wrong_list : K.lookup f__law_wrong_list = some ⟨oc__law_wrong_list, od__law_wrong_list, .func (PySem.W.fnOf "_law_wrong_list" "_law_wrong_list" (defArgs s__law_wrong_list) (defBody s__law_wrong_list) (defScope s__law_wrong_list) .none kV__law_wrong_list dc__law_wrong_list pm__law_wrong_list an__law_wrong_list cd__law_wrong_list ct__law_wrong_list), sl__law_wrong_list⟩)
    (c__law_wrong_list : PySem.W.codeIn K cd__law_wrong_list "_law_wrong_list" = true)
    (k__law_wrong_list : PySem.W.keepIn K (.ref f__law_wrong_list) = true)
    (a__law_values : PySem.W.nsIn K mainGlobals "_law_values" = some (some (.ref f__law_values)))
    (l__law_values : K.lookup f__law_values = some ⟨oc__law_values, od__law_values, .func (PySem.W.fnOf "_law_values" "_law_values" (defArgs s__law_values) (defBody s__law_values) (defScope s__law_values) .none kV__law_values dc__law_values pm__law_values an__law_values cd__law_values ct__law_values), sl__law_values⟩)
    (c__law_values : PySem.W.codeIn K cd__law_values "_law_values" = true)
    (k__law_values : PySem.W.keepIn K (.ref f__law_values) = true)
    (a__law_sorted : PySem.W.nsIn K mainGlobals "_law_sorted" = some (some (.ref f__law_sorted)))
    (l__law_sorted : K.lookup f__law_sorted = some ⟨oc__law_sorted, od__law_sorted, .func (PySem.W.fnOf "_law_sorted" "_law_sorted" (defArgs s__law_sorted) (defBody s__law_sorted) (defScope s__law_sorted) .none kV__law_sorted dc__law_sorted pm__law_sorted an__law_sorted cd__law_sorted ct__law_sorted), sl__law_sorted⟩)
    (c__law_sorted : PySem.W.codeIn K cd__law_sorted "_law_sorted" = true)
    (k__law_sorted : PySem.W.keepIn K (.ref f__law_sorted) = true)
    (a_law : PySem.W.nsIn K mainGlobals "law" = some (some (.ref f_law)))
    (l_law : K.lookup f_law = some ⟨oc_law, od_law, .func (PySem.W.fnOf "law" "law" (defArgs s_law) (defBody s_law) (defScope s_law) .none kV_law dc_law pm_law an_law cd_law ct_law), sl_law⟩)
    (c_law : PySem.W.codeIn K cd_law "law" = true)
    (k_law : PySem.W.keepIn K (.ref f_law) = true)
    (aC_HeldError : PySem.W.nsIn K mainGlobals "HeldError" = some (some (.ref C_HeldError)))
    (e_opq : PySem.W.nsIn K cStatics "thirdparty.any" = some none)
    (e_cg : PySem.W.specialIn K (.builtin "object.__class__") "__get__" = some (some (.builtin "getset_descriptor.__get__")))
    (e_ct : PySem.W.takesIn K (.builtin "object.__class__") = some true)
    (aC_BadWord : PySem.W.nsIn K mainGlobals "BadWord" = some (some (.ref C_BadWord)))
    (xL_BadWord : K.lookup C_BadWord = some (excClassObj nm_BadWord q_BadWord C_BadWord N_BadWord bs_BadWord bm_BadWord true sn_BadWord sub_BadWord ab_BadWord col_BadWord dd_BadWord m0_BadWord m1_BadWord m2_BadWord m3_BadWord m5_BadWord "ValueError.__new__"))
    (bm_BadWord : PySem.HandSPX.refsVE bm_BadWord = true)
    (sa_BadWord : PySem.W.findIn K (.ref C_BadWord) "__setattr__" = some (some (.builtin "object.__setattr__")))
    (ga_BadWord : PySem.W.findIn K (.ref C_BadWord) "__getattribute__" = some (some (.builtin "BaseException.__getattribute__")))
    (gg_BadWord : PySem.W.findIn K (.ref C_BadWord) "__getattr__" = some none)
    (no_word_BadWord : PySem.W.findIn K (.ref C_BadWord) "word" = some none)
    (iC_BadWord : PySem.W.findIn K (.ref C_BadWord) "__init__" = some (some (.ref fI_BadWord)))
    (tI_BadWord : PySem.W.typeIn K (.ref fI_BadWord) = some (.type "function"))
    (kC_BadWord : PySem.W.keepIn K (.ref C_BadWord) = true)
    (ex_BadWord : PySem.W.subIn K (.ref C_BadWord) (.type "BaseException") = some true)
    (ve_BadWord : PySem.W.subIn K (.ref C_BadWord) (.type "ValueError") = some true)
    (ty_BadWord : PySem.W.typeIn K (.ref C_BadWord) = some (.type "type"))
    (hd_BadWord : PySem.W.hasDictIn K C_BadWord = true)
    (sup_BadWord : PySem.W.ks_superIn K C_BadWord C_BadWord "__init__" = some (some (.builtin "ValueError.__init__")))
    (mro_BadWord : PySem.W.mroIn K C_BadWord (.ref C_BadWord) = some true)
    (su_BadWord : PySem.W.subIn K (.ref C_BadWord) (.ref C_BadWord) = some true)
    (ca_BadWord : PySem.W.findIn K (.ref C_BadWord) "__class__" = some (some (.builtin "object.__class__")))
    (mo_BadWord : PySem.W.mroIn K C_BadWord (.type "object") = some true)
    (l_BadWord : K.lookup fI_BadWord = some ⟨oc_BadWord, od_BadWord, .func (PySem.W.ksFn "__init__" "BadWord.__init__" (defArgs (inClass (topS 2) 0)) (defBody (inClass (topS 2) 0)) (defScope (inClass (topS 2) 0)) .none kV_BadWord dc_BadWord pm_BadWord an_BadWord (.ref cda_BadWord) ct_BadWord cc_BadWord), sl_BadWord⟩)
    (c_BadWord : PySem.W.codeIn K (.ref cda_BadWord) "BadWord.__init__" = true)
    (lc_BadWord : K.lookup cda_BadWord = some ⟨ccl_BadWord, cdd_BadWord, .fields vs_BadWord, ccs_BadWord⟩)
    (v2_BadWord : vs_BadWord[2]? = some (.str file_BadWord tf_BadWord))
    (fl_BadWord : ((P.main.file : Str) == file_BadWord) = true)
    (cc_BadWord : K.lookup cc_BadWord = some ⟨cl_BadWord, cld_BadWord, .cell (some (.ref C_BadWord)), csl_BadWord⟩)
    (aC_DoubleName : PySem.W.nsIn K mainGlobals "DoubleName" = some (some (.ref C_DoubleName)))
    (xL_DoubleName : K.lookup C_DoubleName = some (excClassObj nm_DoubleName q_DoubleName C_DoubleName N_DoubleName bs_DoubleName bm_DoubleName true sn_DoubleName sub_DoubleName ab_DoubleName col_DoubleName dd_DoubleName m0_DoubleName m1_DoubleName m2_DoubleName m3_DoubleName m5_DoubleName "ValueError.__new__"))
    (bm_DoubleName : PySem.HandSPX.refsVE bm_DoubleName = true)
    (sa_DoubleName : PySem.W.findIn K (.ref C_DoubleName) "__setattr__" = some (some (.builtin "object.__setattr__")))
    (ga_DoubleName : PySem.W.findIn K (.ref C_DoubleName) "__getattribute__" = some (some (.builtin "BaseException.__getattribute__")))
    (gg_DoubleName : PySem.W.findIn K (.ref C_DoubleName) "__getattr__" = some none)
    (no_name_DoubleName : PySem.W.findIn K (.ref C_DoubleName) "name" = some none)
    (iC_DoubleName : PySem.W.findIn K (.ref C_DoubleName) "__init__" = some (some (.ref fI_DoubleName)))
    (tI_DoubleName : PySem.W.typeIn K (.ref fI_DoubleName) = some (.type "function"))
    (kC_DoubleName : PySem.W.keepIn K (.ref C_DoubleName) = true)
    (ex_DoubleName : PySem.W.subIn K (.ref C_DoubleName) (.type "BaseException") = some true)
    (ve_DoubleName : PySem.W.subIn K (.ref C_DoubleName) (.type "ValueError") = some true)
    (ty_DoubleName : PySem.W.typeIn K (.ref C_DoubleName) = some (.type "type"))
    (hd_DoubleName : PySem.W.hasDictIn K C_DoubleName = true)
    (sup_DoubleName : PySem.W.ks_superIn K C_DoubleName C_DoubleName "__init__" = some (some (.builtin "ValueError.__init__")))
    (mro_DoubleName : PySem.W.mroIn K C_DoubleName (.ref C_DoubleName) = some true)
    (su_DoubleName : PySem.W.subIn K (.ref C_DoubleName) (.ref C_DoubleName) = some true)
    (ca_DoubleName : PySem.W.findIn K (.ref C_DoubleName) "__class__" = some (some (.builtin "object.__class__")))
    (mo_DoubleName : PySem.W.mroIn K C_DoubleName (.type "object") = some true)
    (l_DoubleName : K.lookup fI_DoubleName = some ⟨oc_DoubleName, od_DoubleName, .func (PySem.W.ksFn "__init__" "DoubleName.__init__" (defArgs (inClass (topS 3) 0)) (defBody (inClass (topS 3) 0)) (defScope (inClass (topS 3) 0)) .none kV_DoubleName dc_DoubleName pm_DoubleName an_DoubleName (.ref cda_DoubleName) ct_DoubleName cc_DoubleName), sl_DoubleName⟩)
    (c_DoubleName : PySem.W.codeIn K (.ref cda_DoubleName) "DoubleName.__init__" = true)
    (lc_DoubleName : K.lookup cda_DoubleName = some ⟨ccl_DoubleName, cdd_DoubleName, .fields vs_DoubleName, ccs_DoubleName⟩)
    (v2_DoubleName : vs_DoubleName[2]? = some (.str file_DoubleName tf_DoubleName))
    (fl_DoubleName : ((P.main.file : Str) == file_DoubleName) = true)
    (cc_DoubleName : K.lookup cc_DoubleName = some ⟨cl_DoubleName, cld_DoubleName, .cell (some (.ref C_DoubleName)), csl_DoubleName⟩)
    (aC_Tally : PySem.W.nsIn K mainGlobals "Tally" = some (some (.ref C_Tally)))
    (pg_Tally : PySem.W.plainGet K C_Tally Str.empty = true)
    (hd_Tally : PySem.W.hasDictIn K C_Tally = true)
    (po_Tally : PySem.W.plainOver K C_Tally = true)
    (sa_Tally : PySem.W.findIn K (.ref C_Tally) "__setattr__" = some (some (.builtin "object.__setattr__")))
    (no_counts_Tally : PySem.W.findIn K (.ref C_Tally) "counts" = some none)
    (ca_Tally : PySem.W.findIn K (.ref C_Tally) "__class__" = some (some (.builtin "object.__class__")))
    (mo_Tally : PySem.W.mroIn K C_Tally (.type "object") = some true)
    (mk_Tally : PySem.W.makesIn K C_Tally = true)
    (kC_Tally : PySem.W.keepIn K (.ref C_Tally) = true)
    (a_Tally___init__ : PySem.W.findIn K (.ref C_Tally) "__init__" = some (some (.ref f_Tally___init__)))
    (i_Tally___init__ : PySem.W.isFn K (.ref f_Tally___init__) = true)
    (l_Tally___init__ : K.lookup f_Tally___init__ = some ⟨oc_Tally___init__, od_Tally___init__, .func (PySem.W.fnOf "__init__" "Tally.__init__" (defArgs s_Tally___init__) (defBody s_Tally___init__) (defScope s_Tally___init__) .none kV_Tally___init__ dc_Tally___init__ pm_Tally___init__ an_Tally___init__ cd_Tally___init__ ct_Tally___init__), sl_Tally___init__⟩)
    (c_Tally___init__ : PySem.W.codeIn K cd_Tally___init__ "Tally.__init__" = true)
    (k_Tally___init__ : PySem.W.keepIn K (.ref f_Tally___init__) = true)
    (a_Tally___getitem__ : PySem.W.findIn K (.ref C_Tally) "__getitem__" = some (some (.ref f_Tally___getitem__)))
    (i_Tally___getitem__ : PySem.W.isFn K (.ref f_Tally___getitem__) = true)
    (l_Tally___getitem__ : K.lookup f_Tally___getitem__ = some ⟨oc_Tally___getitem__, od_Tally___getitem__, .func (PySem.W.fnOf "__getitem__" "Tally.__getitem__" (defArgs s_Tally___getitem__) (defBody s_Tally___getitem__) (defScope s_Tally___getitem__) .none kV_Tally___getitem__ dc_Tally___getitem__ pm_Tally___getitem__ an_Tally___getitem__ cd_Tally___getitem__ ct_Tally___getitem__), sl_Tally___getitem__⟩)
    (c_Tally___getitem__ : PySem.W.codeIn K cd_Tally___getitem__ "Tally.__getitem__" = true)
    (k_Tally___getitem__ : PySem.W.keepIn K (.ref f_Tally___getitem__) = true)
    (a_Tally___contains__ : PySem.W.findIn K (.ref C_Tally) "__contains__" = some (some (.ref f_Tally___contains__)))
    (i_Tally___contains__ : PySem.W.isFn K (.ref f_Tally___contains__) = true)
    (l_Tally___contains__ : K.lookup f_Tally___contains__ = some ⟨oc_Tally___contains__, od_Tally___contains__, .func (PySem.W.fnOf "__contains__" "Tally.__contains__" (defArgs s_Tally___contains__) (defBody s_Tally___contains__) (defScope s_Tally___contains__) .none kV_Tally___contains__ dc_Tally___contains__ pm_Tally___contains__ an_Tally___contains__ cd_Tally___contains__ ct_Tally___contains__), sl_Tally___contains__⟩)
    (c_Tally___contains__ : PySem.W.codeIn K cd_Tally___contains__ "Tally.__contains__" = true)
    (k_Tally___contains__ : PySem.W.keepIn K (.ref f_Tally___contains__) = true)
    (a_Tally___len__ : PySem.W.findIn K (.ref C_Tally) "__len__" = some (some (.ref f_Tally___len__)))
    (i_Tally___len__ : PySem.W.isFn K (.ref f_Tally___len__) = true)
    (l_Tally___len__ : K.lookup f_Tally___len__ = some ⟨oc_Tally___len__, od_Tally___len__, .func (PySem.W.fnOf "__len__" "Tally.__len__" (defArgs s_Tally___len__) (defBody s_Tally___len__) (defScope s_Tally___len__) .none kV_Tally___len__ dc_Tally___len__ pm_Tally___len__ an_Tally___len__ cd_Tally___len__ ct_Tally___len__), sl_Tally___len__⟩)
    (c_Tally___len__ : PySem.W.codeIn K cd_Tally___len__ "Tally.__len__" = true)
    (k_Tally___len__ : PySem.W.keepIn K (.ref f_Tally___len__) = true)
    (a_Tally___bool__ : PySem.W.findIn K (.ref C_Tally) "__bool__" = some (some (.ref f_Tally___bool__)))
    (i_Tally___bool__ : PySem.W.isFn K (.ref f_Tally___bool__) = true)
    (l_Tally___bool__ : K.lookup f_Tally___bool__ = some ⟨oc_Tally___bool__, od_Tally___bool__, .func (PySem.W.fnOf "__bool__" "Tally.__bool__" (defArgs s_Tally___bool__) (defBody s_Tally___bool__) (defScope s_Tally___bool__) .none kV_Tally___bool__ dc_Tally___bool__ pm_Tally___bool__ an_Tally___bool__ cd_Tally___bool__ ct_Tally___bool__), sl_Tally___bool__⟩)
    (c_Tally___bool__ : PySem.W.codeIn K cd_Tally___bool__ "Tally.__bool__" = true)
    (k_Tally___bool__ : PySem.W.keepIn K (.ref f_Tally___bool__) = true)
    (a_Tally___abs__ : PySem.W.findIn K (.ref C_Tally) "__abs__" = some (some (.ref f_Tally___abs__)))
    (i_Tally___abs__ : PySem.W.isFn K (.ref f_Tally___abs__) = true)
    (l_Tally___abs__ : K.lookup f_Tally___abs__ = some ⟨oc_Tally___abs__, od_Tally___abs__, .func (PySem.W.fnOf "__abs__" "Tally.__abs__" (defArgs s_Tally___abs__) (defBody s_Tally___abs__) (defScope s_Tally___abs__) .none kV_Tally___abs__ dc_Tally___abs__ pm_Tally___abs__ an_Tally___abs__ cd_Tally___abs__ ct_Tally___abs__), sl_Tally___abs__⟩)
    (c_Tally___abs__ : PySem.W.codeIn K cd_Tally___abs__ "Tally.__abs__" = true)
    (k_Tally___abs__ : PySem.W.keepIn K (.ref f_Tally___abs__) = true)
    (a_Tally_rows : PySem.W.findIn K (.ref C_Tally) "rows" = some (some (.ref f_Tally_rows)))
    (i_Tally_rows : PySem.W.isFn K (.ref f_Tally_rows) = true)
    (l_Tally_rows : K.lookup f_Tally_rows = some ⟨oc_Tally_rows, od_Tally_rows, .func (PySem.W.fnOf "rows" "Tally.rows" (defArgs s_Tally_rows) (defBody s_Tally_rows) (defScope s_Tally_rows) .none kV_Tally_rows dc_Tally_rows pm_Tally_rows an_Tally_rows cd_Tally_rows ct_Tally_rows), sl_Tally_rows⟩)
    (c_Tally_rows : PySem.W.codeIn K cd_Tally_rows "Tally.rows" = true)
    (k_Tally_rows : PySem.W.keepIn K (.ref f_Tally_rows) = true)
    (a_Tally_dot : PySem.W.findIn K (.ref C_Tally) "dot" = some (some (.ref f_Tally_dot)))
    (i_Tally_dot : PySem.W.isFn K (.ref f_Tally_dot) = true)
    (l_Tally_dot : K.lookup f_Tally_dot = some ⟨oc_Tally_dot, od_Tally_dot, .func (PySem.W.fnOf "dot" "Tally.dot" (defArgs s_Tally_dot) (defBody s_Tally_dot) (defScope s_Tally_dot) .none kV_Tally_dot dc_Tally_dot pm_Tally_dot an_Tally_dot cd_Tally_dot ct_Tally_dot), sl_Tally_dot⟩)
    (c_Tally_dot : PySem.W.codeIn K cd_Tally_dot "Tally.dot" = true)
    (k_Tally_dot : PySem.W.keepIn K (.ref f_Tally_dot) = true)
    (a_Tally___neg__ : PySem.W.findIn K (.ref C_Tally) "__neg__" = some (some (.ref f_Tally___neg__)))
    (i_Tally___neg__ : PySem.W.isFn K (.ref f_Tally___neg__) = true)
    (l_Tally___neg__ : K.lookup f_Tally___neg__ = some ⟨oc_Tally___neg__, od_Tally___neg__, .func (PySem.W.fnOf "__neg__" "Tally.__neg__" (defArgs s_Tally___neg__) (defBody s_Tally___neg__) (defScope s_Tally___neg__) .none kV_Tally___neg__ dc_Tally___neg__ pm_Tally___neg__ an_Tally___neg__ cd_Tally___neg__ ct_Tally___neg__), sl_Tally___neg__⟩)
    (c_Tally___neg__ : PySem.W.codeIn K cd_Tally___neg__ "Tally.__neg__" = true)
    (k_Tally___neg__ : PySem.W.keepIn K (.ref f_Tally___neg__) = true)
    (k1_Tally : PySem.W.kitOne K (.ref C_Tally) (.ref C_Tally) = some true)
    (k2_Tally : PySem.W.kitOne K (.type "int") (.ref C_Tally) = some false)
    (k3_Tally : PySem.W.kitAny K (.ref C_Tally) [.ref C_Tally, .type "int"] = some true)
    (k4_Tally : PySem.W.kitAny K (.type "int") [.ref C_Tally, .type "int"] = some true)
    (si_Tally : PySem.W.subIn K (.type "int") (.ref C_Tally) = some false)
    (is_Tally : PySem.W.subIn K (.ref C_Tally) (.type "int") = some false)
    (kt_BadWord_DoubleName : PySem.W.kitOne K (.ref C_BadWord) (.ref C_DoubleName) = some false)
    (kt_BadWord_HeldError : PySem.W.kitOne K (.ref C_BadWord) (.ref C_HeldError) = some true)
    (kt_BadWord_ValueError : PySem.W.kitOne K (.ref C_BadWord) (.type "ValueError") = some true)
    (kt_DoubleName_BadWord : PySem.W.kitOne K (.ref C_DoubleName) (.ref C_BadWord) = some false)
    (kt_DoubleName_HeldError : PySem.W.kitOne K (.ref C_DoubleName) (.ref C_HeldError) = some true)
    (kt_DoubleName_ValueError : PySem.W.kitOne K (.ref C_DoubleName) (.type "ValueError") = some true)
    (xN_DoubleName_BadWord : PySem.W.exmOne K (.ref C_DoubleName) (.ref C_BadWord) = some false) :
    ∃ fd : FuncData, (∀ (s : Shared) (v : Value), BindsTo s fd ⟨[v], []⟩ [("_law_script", v)]) ∧ ∀ base : Heap, K.In base → base.Ns mainGlobals mg → FnG P w K mg base 7 fa fd ["_law_script"] (spLaw K) := by
  have e := hfa.symm.trans (PySem.W.mg_of X G a_law)
  cases e
  have B : Bl mg := ⟨PySem.W.mg_none_of X G z_len, PySem.W.mg_none_of X G z_range, PySem.W.mg_none_of X G z_abs, PySem.W.mg_none_of X G z_sum, PySem.W.mg_none_of X G z_sorted, PySem.W.mg_none_of X G z_isinstance, PySem.W.mg_none_of X G z_zip, PySem.W.mg_none_of X G z_enumerate, PySem.W.mg_none_of X G z_reversed, PySem.W.mg_none_of X G z_int, PySem.W.mg_none_of X G z_str, PySem.W.mg_none_of X G z_list, PySem.W.mg_none_of X G z_tuple, PySem.W.mg_none_of X G z_bool, PySem.W.mg_none_of X G z_all, PySem.W.mg_none_of X G z_any, PySem.W.mg_none_of X G z_ValueError⟩
  have NB_repr : mg "repr" = none := PySem.W.mg_none_of X G z_repr
  have g_MOST_SIGNS := glo_int X G a_MOST_SIGNS
  have g_LETTERS := glo_str X G a_LETTERS
  have g_DIGITS := glo_str X G a_DIGITS
  have F__law_box : Src K mg "_law_box" s__law_box ["_law_script"] := src_mk X G a__law_box l__law_box c__law_box k__law_box (fun _ _ _ _ _ _ us hl => match us, hl with | [_], _ => rfl)
  have F__law_draw : Src K mg "_law_draw" s__law_draw ["_law_box_here", "_law_limit"] := src_mk X G a__law_draw l__law_draw c__law_draw k__law_draw (fun _ _ _ _ _ _ us hl => match us, hl with | [_, _], _ => rfl)
  have F__law_word : Src K mg "_law_word" s__law_word ["_law_box_here"] := src_mk X G a__law_word l__law_word c__law_word k__law_word (fun _ _ _ _ _ _ us hl => match us, hl with | [_], _ => rfl)
  have F__law_fresh : Src K mg "_law_fresh" s__law_fresh ["_law_box_here", "_law_used"] := src_mk X G a__law_fresh l__law_fresh c__law_fresh k__law_fresh (fun _ _ _ _ _ _ us hl => match us, hl with | [_, _], _ => rfl)
  have F_is_word : Src K mg "is_word" s_is_word ["word"] := src_mk X G a_is_word l_is_word c_is_word k_is_word (fun _ _ _ _ _ _ us hl => match us, hl with | [_], _ => rfl)
  have F_check_word : Src K mg "check_word" s_check_word ["word"] := src_mk X G a_check_word l_check_word c_check_word k_check_word (fun _ _ _ _ _ _ us hl => match us, hl with | [_], _ => rfl)
  have F__law_number : Src K mg "_law_number" s__law_number ["_law_box_here"] := src_mk X G a__law_number l__law_number c__law_number k__law_number (fun _ _ _ _ _ _ us hl => match us, hl with | [_], _ => rfl)
  have F__law_rows : Src K mg "_law_rows" s__law_rows ["_law_box_here", "_law_known"] := src_mk X G a__law_rows l__law_rows c__law_rows k__law_rows (fun _ _ _ _ _ _ us hl => match us, hl with | [_, _], _ => rfl)
  have F__law_is_int : Src K mg "_law_is_int" s__law_is_int ["_law_value"] := src_mk X G a__law_is_int l__law_is_int c__law_is_int k__law_is_int (fun _ _ _ _ _ _ us hl => match us, hl with | [_], _ => rfl)
  have F__law_refused : Src K mg "_law_refused" s__law_refused ["_law_rows_here"] := src_mk X G a__law_refused l__law_refused c__law_refused k__law_refused (fun _ _ _ _ _ _ us hl => match us, hl with | [_], _ => rfl)
  have F__law_wrong_list : Src K mg "_law_wrong_list" s__law_wrong_list ["_law_box_here", "_law_rows_here"] := src_mk X G a__law_wrong_list l__law_wrong_list c__law_wrong_list k__law_wrong_list (fun _ _ _ _ _ _ us hl => match us, hl with | [_, _], _ => rfl)
  have F__law_values : Src K mg "_law_values" s__law_values ["_law_tally", "_law_rows_here", "_law_strange"] := src_mk X G a__law_values l__law_values c__law_values k__law_values (fun _ _ _ _ _ _ us hl => match us, hl with | [_, _, _], _ => rfl)
  have F__law_sorted : Src K mg "_law_sorted" s__law_sorted ["_law_rows_here"] := src_mk X G a__law_sorted l__law_sorted c__law_sorted k__law_sorted (fun _ _ _ _ _ _ us hl => match us, hl with | [_], _ => rfl)
  have g_HeldError := glo_ref X G aC_HeldError
  have nn_BadWord : ∀ f ∈ (["word"] : List Str), PySem.W.findIn K (.ref C_BadWord) f = some none := fun f hf => by
      simp only [List.mem_cons, List.not_mem_nil, or_false] at hf
      rcases hf with rfl
      · exact no_word_BadWord
  have X_BadWord : ErrTxt P K mg false "BadWord" C_BadWord fI_BadWord ["word"] := err_mk (st := inClass (topS 2) 0) (fp := [("word", _, _, _, _)]) X G aC_BadWord z_super xL_BadWord bm_BadWord sa_BadWord ga_BadWord gg_BadWord nn_BadWord
    iC_BadWord tI_BadWord kC_BadWord ex_BadWord ve_BadWord ty_BadWord hd_BadWord sup_BadWord mro_BadWord su_BadWord ca_BadWord e_cg e_ct mo_BadWord e_opq top l_BadWord c_BadWord lc_BadWord v2_BadWord fl_BadWord cc_BadWord rfl rfl rfl rfl (by decide +kernel) (by decide +kernel) (by decide +kernel) (by decide +kernel) (by decide +kernel) (by decide +kernel) (by decide +kernel) rfl rfl rfl
    (fun _ _ _ _ _ _ _ s x us hl => match us, hl with | [_], _ => .of_eq rfl) (fun x us hl => match us, hl with | [_], _ => ⟨by rfl, .cons (by rfl) (.nil)⟩) (.inl ⟨rfl, _, _, _, rfl⟩)
  have nn_DoubleName : ∀ f ∈ (["name"] : List Str), PySem.W.findIn K (.ref C_DoubleName) f = some none := fun f hf => by
      simp only [List.mem_cons, List.not_mem_nil, or_false] at hf
      rcases hf with rfl
      · exact no_name_DoubleName
  have X_DoubleName : ErrTxt P K mg false "DoubleName" C_DoubleName fI_DoubleName ["name"] := err_mk (st := inClass (topS 3) 0) (fp := [("name", _, _, _, _)]) X G aC_DoubleName z_super xL_DoubleName bm_DoubleName sa_DoubleName ga_DoubleName gg_DoubleName nn_DoubleName
    iC_DoubleName tI_DoubleName kC_DoubleName ex_DoubleName ve_DoubleName ty_DoubleName hd_DoubleName sup_DoubleName mro_DoubleName su_DoubleName ca_DoubleName e_cg e_ct mo_DoubleName e_opq top l_DoubleName c_DoubleName lc_DoubleName v2_DoubleName fl_DoubleName cc_DoubleName rfl rfl rfl rfl (by decide +kernel) (by decide +kernel) (by decide +kernel) (by decide +kernel) (by decide +kernel) (by decide +kernel) (by decide +kernel) rfl rfl rfl
    (fun _ _ _ _ _ _ _ s x us hl => match us, hl with | [_], _ => .of_eq rfl) (fun x us hl => match us, hl with | [_], _ => ⟨by rfl, .cons (by rfl) (.nil)⟩) (.inl ⟨rfl, _, _, _, rfl⟩)
  have FI_Tally : SrcI K C_Tally "Tally.__init__" s_Tally___init__ ["self", "rows"] := srcI_mk mk_Tally kC_Tally a_Tally___init__ i_Tally___init__ l_Tally___init__ c_Tally___init__ k_Tally___init__ (fun _ _ _ _ _ _ us hl => match us, hl with | [_, _], _ => rfl)
  have FM_Tally___getitem__ : SrcM K C_Tally "__getitem__" "Tally.__getitem__" s_Tally___getitem__ ["self", "word"] := srcM_mk a_Tally___getitem__ i_Tally___getitem__ l_Tally___getitem__ c_Tally___getitem__ k_Tally___getitem__ (fun _ _ _ _ _ _ us hl => match us, hl with | [_, _], _ => rfl)
  have FM_Tally___contains__ : SrcM K C_Tally "__contains__" "Tally.__contains__" s_Tally___contains__ ["self", "word"] := srcM_mk a_Tally___contains__ i_Tally___contains__ l_Tally___contains__ c_Tally___contains__ k_Tally___contains__ (fun _ _ _ _ _ _ us hl => match us, hl with | [_, _], _ => rfl)
  have FM_Tally___len__ : SrcM K C_Tally "__len__" "Tally.__len__" s_Tally___len__ ["self"] := srcM_mk a_Tally___len__ i_Tally___len__ l_Tally___len__ c_Tally___len__ k_Tally___len__ (fun _ _ _ _ _ _ us hl => match us, hl with | [_], _ => rfl)
  have FM_Tally___bool__ : SrcM K C_Tally "__bool__" "Tally.__bool__" s_Tally___bool__ ["self"] := srcM_mk a_Tally___bool__ i_Tally___bool__ l_Tally___bool__ c_Tally___bool__ k_Tally___bool__ (fun _ _ _ _ _ _ us hl => match us, hl with | [_], _ => rfl)
  have FM_Tally___abs__ : SrcM K C_Tally "__abs__" "Tally.__abs__" s_Tally___abs__ ["self"] := srcM_mk a_Tally___abs__ i_Tally___abs__ l_Tally___abs__ c_Tally___abs__ k_Tally___abs__ (fun _ _ _ _ _ _ us hl => match us, hl with | [_], _ => rfl)
  have FM_Tally_rows : SrcM K C_Tally "rows" "Tally.rows" s_Tally_rows ["self"] := srcM_mk a_Tally_rows i_Tally_rows l_Tally_rows c_Tally_rows k_Tally_rows (fun _ _ _ _ _ _ us hl => match us, hl with | [_], _ => rfl)
  have FM_Tally_dot : SrcM K C_Tally "dot" "Tally.dot" s_Tally_dot ["self", "other"] := srcM_mk a_Tally_dot i_Tally_dot l_Tally_dot c_Tally_dot k_Tally_dot (fun _ _ _ _ _ _ us hl => match us, hl with | [_, _], _ => rfl)
  have FM_Tally___neg__ : SrcM K C_Tally "__neg__" "Tally.__neg__" s_Tally___neg__ ["self"] := srcM_mk a_Tally___neg__ i_Tally___neg__ l_Tally___neg__ c_Tally___neg__ k_Tally___neg__ (fun _ _ _ _ _ _ us hl => match us, hl with | [_], _ => rfl)
  have GF_Tally : GetFn K C_Tally := fun f h => by
    rw [a_Tally___getitem__] at h
    cases h
    unfold PySem.W.fnIn
    rw [l_Tally___getitem__]
  have m_Tally := PySem.W.mg_of X G aC_Tally
  have CL_Tally : Cls K C_Tally := ⟨pg_Tally, hd_Tally, po_Tally, sa_Tally⟩
  have no_Tally : ∀ f ∈ (["counts"] : List Str), NoAttr K C_Tally f := fun f hf => by
    simp only [List.mem_cons, List.not_mem_nil, or_false] at hf
    rcases hf with rfl
    · exact no_counts_Tally
  have T_Tally : ClsA K mg C_Tally "Tally" ["counts"] := ⟨⟨CL_Tally, no_Tally⟩, m_Tally, ⟨CL_Tally, ca_Tally, e_cg, e_ct, mo_Tally⟩, k1_Tally, k2_Tally, k3_Tally, k4_Tally, ⟨si_Tally, is_Tally⟩⟩
  refine ⟨PySem.W.fnOf "law" "law" (defArgs s_law) (defBody s_law) (defScope s_law) .none kV_law dc_law pm_law an_law cd_law ct_law, fun s v => .of_eq rfl, fun base hK hN => ?_⟩
  obtain ⟨cs, hcs⟩ : ∃ cs : EK → Addr, cs = fun k => match k with | .tooMany => C_BadWord | .badWord => C_BadWord | .double => C_DoubleName | .badNumber => C_BadWord | .empty => C_BadWord | .unknown => C_BadWord | .inUse => C_BadWord | .badState => C_BadWord | .notReady => C_BadWord | .notSound => C_BadWord | .badPair => C_BadWord | .badText => C_BadWord | .noUndo => C_BadWord := ⟨_, rfl⟩
  have X_BadWord : ErrTxt P K mg false "BadWord" (cs .badWord) fI_BadWord ["word"] := by rw [hcs]; exact X_BadWord
  have X_DoubleName : ErrTxt P K mg false "DoubleName" (cs .double) fI_DoubleName ["name"] := by rw [hcs]; exact X_DoubleName
  have kt_BadWord_DoubleName : PySem.W.kitOne K (.ref (cs .badWord)) (.ref (cs .double)) = some false := by rw [hcs]; exact kt_BadWord_DoubleName
  have kt_BadWord_HeldError : PySem.W.kitOne K (.ref (cs .badWord)) (.ref C_HeldError) = some true := by rw [hcs]; exact kt_BadWord_HeldError
  have kt_BadWord_ValueError : PySem.W.kitOne K (.ref (cs .badWord)) (.type "ValueError") = some true := by rw [hcs]; exact kt_BadWord_ValueError
  have kt_DoubleName_BadWord : PySem.W.kitOne K (.ref (cs .double)) (.ref (cs .badWord)) = some false := by rw [hcs]; exact kt_DoubleName_BadWord
  have kt_DoubleName_HeldError : PySem.W.kitOne K (.ref (cs .double)) (.ref C_HeldError) = some true := by rw [hcs]; exact kt_DoubleName_HeldError
  have kt_DoubleName_ValueError : PySem.W.kitOne K (.ref (cs .double)) (.type "ValueError") = some true := by rw [hcs]; exact kt_DoubleName_ValueError
  have xN_DoubleName_BadWord : PySem.W.exmOne K (.ref (cs .double)) (.ref (cs .badWord)) = some false := by rw [hcs]; exact xN_DoubleName_BadWord
  have g_BadWord : Glo mg "BadWord" (.ref (cs .badWord)) := ⟨_, X_BadWord.gC, rfl⟩
  have g_DoubleName : Glo mg "DoubleName" (.ref (cs .double)) := ⟨_, X_DoubleName.gC, rfl⟩
  have D__law_box := ok__law_box (P := P) (w := w) (base := base) (k := 0) B F__law_box
  have D__law_draw := ok__law_draw (P := P) (w := w) (base := base) (k := 0) B F__law_draw
  have D__law_word := ok__law_word (P := P) (w := w) (base := base) (cs := cs) (k := 1) B (D__law_draw.mono (by decide)) F__law_word
  have D__law_fresh := ok__law_fresh (P := P) (w := w) (base := base) (cs := cs) (k := 2) B (D__law_word.mono (by decide)) F__law_fresh
  have D_is_word := ok_is_word (P := P) (w := w) (base := base) (cs := cs) (k := 0) B g_MOST_SIGNS g_LETTERS g_DIGITS F_is_word
  have D_check_word := ok_check_word (P := P) (w := w) (base := base) (cs := cs) (k := 1) B (D_is_word.mono (by decide)) X_BadWord F_check_word
  have DI_Tally := ok_Tally___init__ (P := P) (w := w) (base := base) (cs := cs) (k := 2) B T_Tally (D_check_word.mono (by decide)) X_DoubleName FI_Tally
  have DM_Tally___getitem__ := ok_Tally___getitem__ (P := P) (w := w) (base := base) (cs := cs) (k := 0) B T_Tally FM_Tally___getitem__
  have DM_Tally___contains__ := ok_Tally___contains__ (P := P) (w := w) (base := base) (cs := cs) (k := 0) B T_Tally FM_Tally___contains__
  have DM_Tally___len__ := ok_Tally___len__ (P := P) (w := w) (base := base) (cs := cs) (k := 0) B T_Tally FM_Tally___len__
  have DM_Tally___bool__ := ok_Tally___bool__ (P := P) (w := w) (base := base) (cs := cs) (k := 0) B T_Tally FM_Tally___bool__
  have DM_Tally___abs__ := ok_Tally___abs__ (P := P) (w := w) (base := base) (cs := cs) (k := 0) B T_Tally FM_Tally___abs__
  have DM_Tally_rows := ok_Tally_rows (P := P) (w := w) (base := base) (cs := cs) (k := 0) B T_Tally FM_Tally_rows
  have DM_Tally_rowsN := ok_Tally_rowsN (P := P) (w := w) (base := base) (cs := cs) (k := 0) B T_Tally FM_Tally_rows
  have DM_Tally_dot := ok_Tally_dot (P := P) (w := w) (base := base) (cs := cs) (k := 1) B T_Tally GF_Tally (DM_Tally___getitem__.mono (by decide)) FM_Tally_dot
  have DM_Tally___neg__ := ok_Tally___neg__ (P := P) (w := w) (base := base) (cs := cs) (k := 3) B T_Tally m_Tally (DI_Tally.mono (by decide)) FM_Tally___neg__
  have D__law_number := ok__law_number (P := P) (w := w) (base := base) (cs := cs) (k := 1) B (D__law_draw.mono (by decide)) F__law_number
  have D__law_rows := ok__law_rows (P := P) (w := w) (base := base) (cs := cs) (k := 3) B (D__law_draw.mono (by decide)) (D__law_fresh.mono (by decide)) (D__law_number.mono (by decide)) F__law_rows
  have D__law_is_int := ok__law_is_int (P := P) (w := w) (base := base) (cs := cs) (k := 0) B  F__law_is_int
  have D__law_refused := ok__law_refused (P := P) (w := w) (base := base) (cs := cs) (k := 3) B g_DoubleName g_HeldError g_BadWord X_BadWord X_DoubleName kt_BadWord_DoubleName kt_BadWord_HeldError kt_BadWord_ValueError kt_DoubleName_BadWord kt_DoubleName_HeldError kt_DoubleName_ValueError xN_DoubleName_BadWord m_Tally (DI_Tally.mono (by decide)) F__law_refused
  have D__law_wrong_list := ok__law_wrong_list (P := P) (w := w) (base := base) (cs := cs) (k := 5) B (D__law_draw.mono (by decide)) (D__law_refused.mono (by decide)) F__law_wrong_list
  have D__law_values := ok__law_values (P := P) (w := w) (base := base) (cs := cs) (k := 1) B (D__law_is_int.mono (by decide)) (DM_Tally___contains__.mono (by decide)) GF_Tally (DM_Tally___getitem__.mono (by decide)) (DM_Tally___len__.mono (by decide)) (DM_Tally___abs__.mono (by decide)) (DM_Tally___bool__.mono (by decide)) F__law_values
  have D__law_sorted := ok__law_sorted (P := P) (w := w) (base := base) (cs := cs) (k := 0) B  F__law_sorted
  exact ok_law (P := P) (w := w) (base := base) (cs := cs) (k := 5) B T_Tally (D__law_rows.mono (by decide)) (D__law_fresh.mono (by decide)) (D__law_values.mono (by decide)) (D__law_sorted.mono (by decide)) (D__law_is_int.mono (by decide)) (D__law_wrong_list.mono (by decide)) (DM_Tally_rowsN.mono (by decide)) (DM_Tally___neg__.mono (by decide)) (DM_Tally_dot.mono (by decide)) (DM_Tally_rows.mono (by decide)) NB_repr m_Tally (DI_Tally.mono (by decide)) (D__law_box.mono (by decide)) (fun_mk l_law c_law k_law) law_pure
theorem walk {l : PySem.W.OpenLaw} {q : Program} {loose : List Str} {XP : (Str → Option Value) → Heap → Prop} {YP : World → Heap → Prop} {d : DefRec} {K : Params → PySem.W.Frag} (hn : l.most = some 63) (hdf : d.params.defaults = [])
    (hY : ∀ (w : World) (h : Heap), YP w h → (K w.params).In h)
    (F : ∀ (w : World) (mg : Str → Option Value) (fa : Addr) (h : Heap), (K w.params).In h → h.Ns mainGlobals mg → mg d.name = some (.ref fa) →
      ∃ fd : FuncData, (∀ (s : Shared) (u : Value), BindsTo s fd ⟨[u], []⟩ [("_law_script", u)]) ∧ ∀ base : Heap, (K w.params).In base → base.Ns mainGlobals mg → FnG l.prog w (K w.params) mg base 7 fa fd ["_law_script"] (spLaw (K w.params))) :
    PySem.W.WalkO q loose XP YP l.row.toRowW d [] (fun f vs => PySem.call f vs) :=
  L2.walk_ofG (n := 63) (k := 7) (x := "_law_script") (sp := fun w => spLaw (K w.params)) hn (by decide) hdf ⟨rfl, by decide, by decide⟩ hY F (fun _ _ a ns hl hS => ⟨a, ns, rfl, hS, hl, fun _ => rfl⟩)
end Held
def PySem.W.Fast.tw8082287298628674753 : Nat := 0
def PySem.W.Fast.tw16736476179993342946 : Nat := 0
def PySem.W.Fast.tw1014625728454601868 : Nat := 0
def PySem.W.Fast.tw3788324276408594932 : Nat := 0
def PySem.W.Fast.tw13787897863828392630 : Nat := 0
def PySem.W.Fast.tw2932526419611906966 : Nat := 0
def PySem.W.Fast.tw15478749808031285596 : Nat := 0
def PySem.W.Fast.tw10287996895774135292 : Nat := 0
def PySem.W.Fast.tw11188812509060740318 : Nat := 0
def PySem.W.Fast.tw9727440950760604383 : Nat := 0
open PySem PySem.W PyProof.Rows in
set_option maxRecDepth 100000 in
set_option maxHeartbeats 0 in
theorem PySem.Challenge.cw_heldsteps_k17_tally_values_holds : PySem.Challenge.rw_heldsteps_k17_tally_values.Holds := by
  w_on; o_law; k_head; (case hw => w_witness2)
  k_fill
  refine Held.walk (l := PySem.Challenge.rw_heldsteps_k17_tally_values) rfl rfl (fun w h Y => PySem.W.kIn_of Y) ?F
  case F =>
    intro w mg fa h KX G hmg
    refine' Held.all_mk KX G hmg (by decide +kernel) ?z_len ?z_range ?z_abs ?z_sum ?z_sorted ?z_isinstance ?z_zip ?z_enumerate ?z_reversed ?z_int ?z_str ?z_list ?z_tuple ?z_bool ?z_all ?z_any ?z_ValueError ?z_super ?z_repr ?a_MOST_SIGNS ?a_LETTERS ?a_DIGITS ?a__law_box ?l__law_box ?c__law_box ?k__law_box ?a__law_draw ?l__law_draw ?c__law_draw ?k__law_draw ?a__law_word ?l__law_word ?c__law_word ?k__law_word ?a__law_fresh ?l__law_fresh ?c__law_fresh ?k__law_fresh ?a_is_word ?l_is_word ?c_is_word ?k_is_word ?a_check_word ?l_check_word ?c_check_word ?k_check_word ?a__law_number ?l__law_number ?c__law_number ?k__law_number ?a__law_rows ?l__law_rows ?c__law_rows ?k__law_rows ?a__law_is_int ?l__law_is_int ?c__law_is_int ?k__law_is_int ?a__law_refused ?l__law_refused ?c__law_refused ?k__law_refused ?a__law_wrong_list ?l__law_wrong_list ?c__law_wrong_list ?k__law_wrong_list ?a__law_values ?l__law_values ?c__law_values ?k__law_values ?a__law_sorted ?l__law_sorted ?c__law_sorted ?k__law_sorted ?a_law ?l_law ?c_law ?k_law ?aC_HeldError ?e_opq ?e_cg ?e_ct ?aC_BadWord ?xL_BadWord ?bm_BadWord ?sa_BadWord ?ga_BadWord ?gg_BadWord ?no_word_BadWord ?iC_BadWord ?tI_BadWord ?kC_BadWord ?ex_BadWord ?ve_BadWord ?ty_BadWord ?hd_BadWord ?sup_BadWord ?mro_BadWord ?su_BadWord ?ca_BadWord ?mo_BadWord ?l_BadWord ?c_BadWord ?lc_BadWord ?v2_BadWord ?fl_BadWord ?cc_BadWord ?aC_DoubleName ?xL_DoubleName ?bm_DoubleName ?sa_DoubleName ?ga_DoubleName ?gg_DoubleName ?no_name_DoubleName ?iC_DoubleName ?tI_DoubleName ?kC_DoubleName ?ex_DoubleName ?ve_DoubleName ?ty_DoubleName ?hd_DoubleName ?sup_DoubleName ?mro_DoubleName ?su_DoubleName ?ca_DoubleName ?mo_DoubleName ?l_DoubleName ?c_DoubleName ?lc_DoubleName ?v2_DoubleName ?fl_DoubleName ?cc_DoubleName ?aC_Tally ?pg_Tally ?hd_Tally ?po_Tally ?sa_Tally ?no_counts_Tally ?ca_Tally ?mo_Tally ?mk_Tally ?kC_Tally ?a_Tally___init__ ?i_Tally___init__ ?l_Tally___init__ ?c_Tally___init__ ?k_Tally___init__ ?a_Tally___getitem__ ?i_Tally___getitem__ ?l_Tally___getitem__ ?c_Tally___getitem__ ?k_Tally___getitem__ ?a_Tally___contains__ ?i_Tally___contains__ ?l_Tally___contains__ ?c_Tally___contains__ ?k_Tally___contains__ ?a_Tally___len__ ?i_Tally___len__ ?l_Tally___len__ ?c_Tally___len__ ?k_Tally___len__ ?a_Tally___bool__ ?i_Tally___bool__ ?l_Tally___bool__ ?c_Tally___bool__ ?k_Tally___bool__ ?a_Tally___abs__ ?i_Tally___abs__ ?l_Tally___abs__ ?c_Tally___abs__ ?k_Tally___abs__ ?a_Tally_rows ?i_Tally_rows ?l_Tally_rows ?c_Tally_rows ?k_Tally_rows ?a_Tally_dot ?i_Tally_dot ?l_Tally_dot ?c_Tally_dot ?k_Tally_dot ?a_Tally___neg__ ?i_Tally___neg__ ?l_Tally___neg__ ?c_Tally___neg__ ?k_Tally___neg__ ?k1_Tally ?k2_Tally ?k3_Tally ?k4_Tally ?si_Tally ?is_Tally ?kt_BadWord_DoubleName ?kt_BadWord_HeldError ?kt_BadWord_ValueError ?kt_DoubleName_BadWord ?kt_DoubleName_HeldError ?kt_DoubleName_ValueError ?xN_DoubleName_BadWord
    (case z_len => k_is)
    (case z_range => k_is)
    (case z_abs => k_is)
    (case z_sum => k_is)
    (case z_sorted => k_is)
    (case z_isinstance => k_is)
    (case z_zip => k_is)
    (case z_enumerate => k_is)
    (case z_reversed => k_is)
    (case z_int => k_is)
    (case z_str => k_is)
    (case z_list => k_is)
    (case z_tuple => k_is)
    (case z_bool => k_is)
    (case z_all => k_is)
    (case z_any => k_is)
    (case z_ValueError => k_is)
    (case z_super => k_is)
    (case z_repr => k_is)
    (case a_MOST_SIGNS => k_is)
    (case a_LETTERS => k_is)
    (case a_DIGITS => k_is)
    (case a__law_box => k_is)
    (case l__law_box => k_is)
    (case c__law_box => k_is)
    (case k__law_box => k_is)
    (case a__law_draw => k_is)
    (case l__law_draw => k_is)
    (case c__law_draw => k_is)
    (case k__law_draw => k_is)
    (case a__law_word => k_is)
    (case l__law_word => k_is)
    (case c__law_word => k_is)
    (case k__law_word => k_is)
    (case a__law_fresh => k_is)
    (case l__law_fresh => k_is)
    (case c__law_fresh => k_is)
    (case k__law_fresh => k_is)
    (case a_is_word => k_is)
    (case l_is_word => k_is)
    (case c_is_word => k_is)
    (case k_is_word => k_is)
    (case a_check_word => k_is)
    (case l_check_word => k_is)
    (case c_check_word => k_is)
    (case k_check_word => k_is)
    (case a__law_number => k_is)
    (case l__law_number => k_is)
    (case c__law_number => k_is)
    (case k__law_number => k_is)
    (case a__law_rows => k_is)
    (case l__law_rows => k_is)
    (case c__law_rows => k_is)
    (case k__law_rows => k_is)
    (case a__law_is_int => k_is)
    (case l__law_is_int => k_is)
    (case c__law_is_int => k_is)
    (case k__law_is_int => k_is)
    (case a__law_refused => k_is)
    (case l__law_refused => k_is)
    (case c__law_refused => k_is)
    (case k__law_refused => k_is)
    (case a__law_wrong_list => k_is)
    (case l__law_wrong_list => k_is)
    (case c__law_wrong_list => k_is)
    (case k__law_wrong_list => k_is)
    (case a__law_values => k_is)
    (case l__law_values => k_is)
    (case c__law_values => k_is)
    (case k__law_values => k_is)
    (case a__law_sorted => k_is)
    (case l__law_sorted => k_is)
    (case c__law_sorted => k_is)
    (case k__law_sorted => k_is)
    (case a_law => k_is)
    (case l_law => k_is)
    (case c_law => k_is)
    (case k_law => k_is)
    (case aC_HeldError => k_is)
    (case e_opq => k_is)
    (case e_cg => k_is)
    (case e_ct => k_is)
    (case aC_BadWord => k_is)
    (case xL_BadWord => k_is)
    (case bm_BadWord => rfl)
    (case sa_BadWord => k_is)
    (case ga_BadWord => k_is)
    (case gg_BadWord => k_is)
    (case no_word_BadWord => k_is)
    (case iC_BadWord => k_is)
    (case tI_BadWord => k_is)
    (case kC_BadWord => k_is)
    (case ex_BadWord => k_is)
    (case ve_BadWord => k_is)
    (case ty_BadWord => k_is)
    (case hd_BadWord => k_is)
    (case sup_BadWord => ks_is)
    (case mro_BadWord => k_is)
    (case su_BadWord => first | rfl | k_is)
    (case ca_BadWord => k_is)
    (case mo_BadWord => k_is)
    (case l_BadWord => k_is)
    (case c_BadWord => k_is)
    (case lc_BadWord => k_is)
    (case v2_BadWord => rfl)
    (case fl_BadWord => first | rfl | decide +kernel)
    (case cc_BadWord => k_is)
    (case aC_DoubleName => k_is)
    (case xL_DoubleName => k_is)
    (case bm_DoubleName => rfl)
    (case sa_DoubleName => k_is)
    (case ga_DoubleName => k_is)
    (case gg_DoubleName => k_is)
    (case no_name_DoubleName => k_is)
    (case iC_DoubleName => k_is)
    (case tI_DoubleName => k_is)
    (case kC_DoubleName => k_is)
    (case ex_DoubleName => k_is)
    (case ve_DoubleName => k_is)
    (case ty_DoubleName => k_is)
    (case hd_DoubleName => k_is)
    (case sup_DoubleName => ks_is)
    (case mro_DoubleName => k_is)
    (case su_DoubleName => first | rfl | k_is)
    (case ca_DoubleName => k_is)
    (case mo_DoubleName => k_is)
    (case l_DoubleName => k_is)
    (case c_DoubleName => k_is)
    (case lc_DoubleName => k_is)
    (case v2_DoubleName => rfl)
    (case fl_DoubleName => first | rfl | decide +kernel)
    (case cc_DoubleName => k_is)
    (case aC_Tally => k_is)
    (case pg_Tally => k_is)
    (case hd_Tally => k_is)
    (case po_Tally => k_is)
    (case sa_Tally => k_is)
    (case no_counts_Tally => k_is)
    (case ca_Tally => k_is)
    (case mo_Tally => k_is)
    (case mk_Tally => k_is)
    (case kC_Tally => k_is)
    (case a_Tally___init__ => k_is)
    (case i_Tally___init__ => k_is)
    (case l_Tally___init__ => k_is)
    (case c_Tally___init__ => k_is)
    (case k_Tally___init__ => k_is)
    (case a_Tally___getitem__ => k_is)
    (case i_Tally___getitem__ => k_is)
    (case l_Tally___getitem__ => k_is)
    (case c_Tally___getitem__ => k_is)
    (case k_Tally___getitem__ => k_is)
    (case a_Tally___contains__ => k_is)
    (case i_Tally___contains__ => k_is)
    (case l_Tally___contains__ => k_is)
    (case c_Tally___contains__ => k_is)
    (case k_Tally___contains__ => k_is)
    (case a_Tally___len__ => k_is)
    (case i_Tally___len__ => k_is)
    (case l_Tally___len__ => k_is)
    (case c_Tally___len__ => k_is)
    (case k_Tally___len__ => k_is)
    (case a_Tally___bool__ => k_is)
    (case i_Tally___bool__ => k_is)
    (case l_Tally___bool__ => k_is)
    (case c_Tally___bool__ => k_is)
    (case k_Tally___bool__ => k_is)
    (case a_Tally___abs__ => k_is)
    (case i_Tally___abs__ => k_is)
    (case l_Tally___abs__ => k_is)
    (case c_Tally___abs__ => k_is)
    (case k_Tally___abs__ => k_is)
    (case a_Tally_rows => k_is)
    (case i_Tally_rows => k_is)
    (case l_Tally_rows => k_is)
    (case c_Tally_rows => k_is)
    (case k_Tally_rows => k_is)
    (case a_Tally_dot => k_is)
    (case i_Tally_dot => k_is)
    (case l_Tally_dot => k_is)
    (case c_Tally_dot => k_is)
    (case k_Tally_dot => k_is)
    (case a_Tally___neg__ => k_is)
    (case i_Tally___neg__ => k_is)
    (case l_Tally___neg__ => k_is)
    (case c_Tally___neg__ => k_is)
    (case k_Tally___neg__ => k_is)
    (case k1_Tally => kit_is)
    (case k2_Tally => kit_is)
    (case k3_Tally => kit_is)
    (case k4_Tally => kit_is)
    (case si_Tally => k_is)
    (case is_Tally => k_is)
    (case kt_BadWord_DoubleName => kit_is)
    (case kt_BadWord_HeldError => kit_is)
    (case kt_BadWord_ValueError => kit_is)
    (case kt_DoubleName_BadWord => kit_is)
    (case kt_DoubleName_HeldError => kit_is)
    (case kt_DoubleName_ValueError => kit_is)
    (case xN_DoubleName_BadWord => first | rfl | decide +kernel | k_is)
#print axioms PySem.Challenge.cw_heldsteps_k17_tally_values_holds
