import PyProof.Rows.All
import Wide.All
import OpenK.AllK
import Wide.FinOn
import PyProof.EqAt
import PyProof.EqKinds
import PyProof.TupleCall
import KE.KExcSuper
import KE.KExcIs
import HandS.ForMost
import HandS.ForExc
import HandS.ExcInit
import HandS.ExcField
import HandS.ExcIs
import HandS.TryMany
import HandS.Walk
import HandS.Wide
import HandS.EndBits
import HandS.Flow
import HandS.Codes
import HandS.IsInst
import HandS.More
import HandS.Conv
import HandS.DictTup
import KE.KDictWalk
import HandS.Style
import HandS.Text
import HandS.Steps
import HandS.CallLocal
import HandS.TupLe
import HandS.TupAny
import HandS.Zip
import HandS.FStr
import HandS.Star
import HandS.DictComp
import PyProof.EqLayable
import HandS.Iter
import HandS.Strs
import PyProof.Rows.StrMul
import HandS.CallSlots
import HandS.Defaults
import HandS.Deep
import KE.KOpsOwn
import KE.KFmtOwn
import HandS.TupLen
import HandS.WordsDict
import HandS.MakeKwOnly
import HandS.ClsMeth
import HandS.HotCalls
import HandS.SetFor
import PyProof.P3Eq
import HandS.RaiseMore
import PyProof.ReprRoads
import KE.KUnpackStar
import PyProof.Rows.MatchSeqLen
import KE.GoesEnumKw
import PySem.Challenge.RW_heldsteps_k62_whole_plan_texts_round
set_option Elab.async false
set_option linter.all false
set_option maxRecDepth 100000
set_option maxHeartbeats 4000000
namespace PySem
namespace HErr
open PySem.W PySem.Calls PyProof.Rows PySem.HandSPX
abbrev FP := Str × Pos × Pos × Pos × Pos
def stF (q : FP) : Stmt := .Assign [.Attribute (.Name "self" q.2.1) q.1 q.2.2.1] (.Name q.1 q.2.2.2.1) q.2.2.2.2
def stS (msg : Expr) (p1 p2 p3 p4 p5 : Pos) : Stmt := .Expr (.Call (.Attribute (.Call (.Name "super" p1) [] [] p2) "__init__" p3) [msg] [] p4) p5
section
variable {prog : Program} {w : World} {A : Around} {E : Value → Shared → Prop} {s : Shared} {K : Frag} {C : Addr}
/-- what is known of the class for its stores -/
structure ClsK (K : Frag) (C : Addr) (fs : List Str) : Prop where
  cls : ∃ nm q N bs bm sn sub ab col dd k0 k1 k2 k3 k5, K.lookup C = some (excClassObj nm q C N bs bm true sn sub ab col dd k0 k1 k2 k3 k5 "ValueError.__new__") ∧ refsVE bm = true
  sa : findIn K (.ref C) "__setattr__" = some (some (.builtin "object.__setattr__"))
  noN : ∀ f ∈ fs, findIn K (.ref C) f = some none
theorem ClsK.data {fs : List Str} (T : ClsK K C fs) : ∃ cd, clsIn K C = some cd ∧ refsVE cd.mro = true ∧ cd.hasDict = true := by
  obtain ⟨nm, q, N, bs, bm, sn, sub, ab, col, dd, k0, k1, k2, k3, k5, hC, hbm⟩ := T.cls
  exact ⟨{ name := nm, bases := bs, mro := .ref C :: bm, ns := N, qualname := q, hasDict := true, slotNames := sn, subclasses := sub, abstract := ab, collection := col, hasDel := false }, by unfold clsIn; rw [hC] <;> rfl, hbm, rfl⟩
theorem ld {M : Model} {env : Env} {m : Str → Option Value} {x : Str} {pos : Pos} {v : Value} {Q : Value → Shared → Prop} (hn : s.heap.Ns env.locals m) (hv : m x = some v) (h : Q v s)
    (hk : env.scope.kind = .function) (hl : env.kindOf x = some .local) (hd : (x == ("__debug__" : Str)) = false) :
    wpAny M A (eval (.Name x pos) env) Q E s := wpAny_Name (wpAny_loadName_local hk hl hn hv h) hd
theorem swaps_attr (env : Env) (q : FP) : swapsWith (.Name q.1 q.2.2.2.1) (some (.Attribute (.Name "self" q.2.1) q.1 q.2.2.1)) q.2.2.2.2.line env = pure false := rfl
/-- the stores behind the first -/
theorem stores_old {names : List Str} (T : ClsK K C names) {env : Env} (hk : env.scope.kind = .function) (hself : env.kindOf "self" = some .local) {m : Str → Option Value} {x dx t0 : Addr} (hmx : m "self" = some (.ref x)) :
    ∀ (fs : List FP) (us : List Value) (vs : List L2.V) (hv : L2.Vals vs us) (hfn : ∀ q ∈ fs, q.1 ∈ names ∧ env.kindOf q.1 = some .local ∧ (q.1 == ("__debug__" : Str)) = false) (hm : Paired (fun (q : FP) u => m q.1 = some u) fs us) (fV : List (Str × L2.V)) (mA : Str → Option Value) (s : Shared) (Q : Flow → Shared → Prop),
      K.In s.heap → s.heap.Ns env.locals m → env.locals ≠ dx → K.lookup dx = none →
      s.heap.get? x = some { cls := .ref C, dict := some dx, data := .fields #[.ref t0, .none, .none, .none, .bool false, .none] } → s.heap.Ns1 dx mA → (∀ f, L2.RelO (fV.lookup f) (mA f)) → fV.length + fs.length ≤ 900 →
      (∀ h' tk mB, (∀ b o, b ≠ dx → s.heap.get? b = some o → h'.get? b = some o) → h'.Ns1 dx mB → (∀ f, L2.RelO ((((fs.map (·.1)).zip vs).reverse ++ fV).lookup f) (mB f)) → Q .next { s with heap := h', toks := tk }) →
      wpAny (model prog w) A (execs (fs.map stF) env) Q E s
  | [], us, vs, hv, hfn, hm, fV, mA, s, Q, X, hn, hL, hKd, hx, hns, hr, hl, hq => by
    refine wpAny_execs_nil ?_
    have := hq s.heap s.toks mA (fun _ _ _ e => e) hns (by simpa using hr)
    exact this
  | q :: fs, us, vs, hv, hfn, hm, fV, mA, s, Q, X, hn, hL, hKd, hx, hns, hr, hl, hq => by
    cases hm with
    | cons hu hm' =>
      rename_i u us'
      cases hv with
      | cons ru hv' =>
        rename_i v vs'
        obtain ⟨hmem, hloc, hdb⟩ := hfn q (List.mem_cons_self ..)
        obtain ⟨cd, hcd, hmro, hhd⟩ := T.data
        have hw := L2.within_of hr
        obtain ⟨hp, g, d, tk, os⟩ := s
        obtain ⟨oD, _, _, hoD, _, _⟩ := hns.count hw
        show wpAny _ _ (execs (stF q :: fs.map stF) env) _ _ _
        refine wpAny_execs_cons (plainObj_wpAny_Assign_Attribute ?_ (swaps_attr env q))
        refine ld hn hu (ld hn hmx ?_ hk hself (by decide)) hk hloc hdb
        refine set_plain X (ox := { cls := .ref C, dict := some dx, data := .fields #[.ref t0, .none, .none, .none, .bool false, .none] }) (od := some oD) ⟨hx, rfl, rfl, hoD⟩ T.sa ?_
        refine PySem.OEX.osa_old X hx hns hw (by rw [List.length_map]; omega) hcd hmro hhd (T.noN _ hmem) (fun h' tk' k hn' => ?_)
        have hxd : x ≠ dx := fun z => by
          obtain ⟨o, es, ep, e1, e2, _⟩ := hns
          rw [← z, hx] at e1
          cases e1
          cases e2
        refine stores_old T hk hself hmx fs us' vs' hv' (fun q' hq' => hfn q' (List.mem_cons_of_mem _ hq')) hm' ((q.1, v) :: fV) _ ⟨h', g, d, tk', os⟩ Q
          (fun a o e => k a o (fun z => by rw [z, hKd] at e; cases e) (X a o e)) ?_ hL hKd (k _ _ hxd hx) hn' (L2.relO_put ru hr) (by simp only [List.length_cons] at hl ⊢; omega) (fun h2 tk2 mB k2 hn2 r2 => ?_)
        · obtain ⟨o, es, ep, e1, e2⟩ := hn
          exact ⟨o, es, ep, k _ _ hL e1, e2⟩
        · refine hq h2 tk2 mB (fun b o hb e => k2 b o hb (k b o hb e)) hn2 fun f => ?_
          have := r2 f
          simpa using this
/-- all stores: from an exception without a dict -/
theorem stores_new {names : List Str} (T : ClsK K C names) {env : Env} (hk : env.scope.kind = .function) (hself : env.kindOf "self" = some .local) {m : Str → Option Value} {x t0 : Addr} (hmx : m "self" = some (.ref x))
    (q : FP) (fs : List FP) (us : List Value) (vs : List L2.V) (hv : L2.Vals vs us) (hfn : ∀ q' ∈ q :: fs, q'.1 ∈ names ∧ env.kindOf q'.1 = some .local ∧ (q'.1 == ("__debug__" : Str)) = false) (hm : Paired (fun (q : FP) u => m q.1 = some u) (q :: fs) us) (s : Shared) (Q : Flow → Shared → Prop)
    (X : K.In s.heap) (hn : s.heap.Ns env.locals m) (hLx : env.locals ≠ x) (hKx : K.lookup x = none)
    (hx : s.heap.get? x = some { cls := .ref C, data := .fields #[.ref t0, .none, .none, .none, .bool false, .none] }) (hl : fs.length ≤ 800)
    (hq : ∀ h' tk dx mB, (∀ b o, b ≠ x → s.heap.get? b = some o → h'.get? b = some o) → s.heap.objs.size ≤ dx → dx ≠ x → h'.get? x = some { cls := .ref C, dict := some dx, data := .fields #[.ref t0, .none, .none, .none, .bool false, .none] } →
      h'.Ns1 dx mB → (∀ f, L2.RelO (((((q :: fs).map (·.1)).zip vs).reverse).lookup f) (mB f)) → Q .next { s with heap := h', toks := tk }) :
    wpAny (model prog w) A (execs ((q :: fs).map stF) env) Q E s := by
  cases hm with
  | cons hu hm' =>
    rename_i u us'
    cases hv with
    | cons ru hv' =>
      rename_i v vs'
      obtain ⟨hmem, hloc, hdb⟩ := hfn q (List.mem_cons_self ..)
      obtain ⟨cd, hcd, hmro, hhd⟩ := T.data
      obtain ⟨hp, g, d, tk, os⟩ := s
      show wpAny _ _ (execs (stF q :: fs.map stF) env) _ _ _
      refine wpAny_execs_cons (plainObj_wpAny_Assign_Attribute ?_ (swaps_attr env q))
      refine ld hn hu (ld hn hmx ?_ hk hself (by decide)) hk hloc hdb
      refine set_plain X (ox := { cls := .ref C, dict := none, data := .fields #[.ref t0, .none, .none, .none, .bool false, .none] }) (od := none) ⟨hx, rfl, rfl, trivial⟩ T.sa ?_
      refine exc_osa X hx hcd hmro hhd (T.noN _ hmem) (fun h' tk' dx k dn dne hx' hn' => ?_)
      have hbig : ∀ {b : Addr} {o : Obj}, hp.get? b = some o → b ≠ dx := fun {b o} e => Nat.ne_of_lt (Nat.lt_of_lt_of_le (Heap.lt_size e) dn)
      have hKd : K.lookup dx = none := by
        cases e : K.lookup dx with
        | none => rfl
        | some o => exact absurd rfl (hbig (X _ _ e))
      have hLd : env.locals ≠ dx := by
        obtain ⟨o, es, ep, e1, e2⟩ := hn
        exact hbig e1
      refine stores_old T hk hself hmx fs us' vs' hv' (fun q' hq' => hfn q' (List.mem_cons_of_mem _ hq')) hm' [(q.1, v)] _ ⟨h', g, d, tk', os⟩ Q
        (fun a o e => k a o (fun z => by rw [z, hKx] at e; cases e) (X a o e)) ?_ hLd hKd hx' hn' (L2.relO_put (fs := []) ru fun _ => True.intro) (by simp only [List.length_cons, List.length_nil] at hl ⊢; omega) (fun h2 tk2 mB k2 hn2 r2 => ?_)
      · obtain ⟨o, es, ep, e1, e2⟩ := hn
        exact ⟨o, es, ep, k _ _ hLx e1, e2⟩
      · refine hq h2 tk2 dx mB (fun b o hb e => k2 b o (hbig e) (k b o hb e)) dn dne (k2 _ _ (Ne.symm dne) hx') hn2 fun f => ?_
        have := r2 f
        simpa using this
/-- what the written part says of the class at C and of its __init__, at fI: its name is cn, its fields fs -/
structure ErrTxt (P : Program) (K : Frag) (mg : Str → Option Value) (tm : Bool) (cn : Str) (C fI : Addr) (fs : List Str) : Prop extends ClsK K C fs where
  gC : mg cn = some (.ref C)
  ga : findIn K (.ref C) "__getattribute__" = some (some (.builtin "BaseException.__getattribute__"))
  gg : findIn K (.ref C) "__getattr__" = some none
  iC : findIn K (.ref C) "__init__" = some (some (.ref fI))
  tC : typeIn K (.ref fI) = some (.type "function")
  kC : keepIn K (.ref C) = true
  exC : subIn K (.ref C) (.type "BaseException") = some true
  veC : subIn K (.ref C) (.type "ValueError") = some true
  tyC : typeIn K (.ref C) = some (.type "type")
  hdC : hasDictIn K C = true
  sup : ks_superIn K C C "__init__" = some (some (.builtin "ValueError.__init__"))
  mro : mroIn K C (.ref C) = some true
  sub : subIn K (.ref C) (.ref C) = some true
  ca : findIn K (.ref C) "__class__" = some (some (.builtin "object.__class__"))
  cg : specialIn K (.builtin "object.__class__") "__get__" = some (some (.builtin "getset_descriptor.__get__"))
  ct : takesIn K (.builtin "object.__class__") = some true
  mo : mroIn K C (.type "object") = some true
  opq : nsIn K cStatics "thirdparty.any" = some none
  msup : mg "super" = none
  top : (P.main.scope.names.lookup ("super" : Str)).isSome = false
  fn : ∃ (oc : Value) (od : Option Addr) (qual : Str) (par : Arguments) (sc : Scope) (msg : Expr) (p1 p2 p3 p4 p5 : Pos) (fp : List FP) (dV kV doc pm : Value) (an : Option Addr) (cda cc : Addr) (ct : Value) (osl : Array (Option Value)) (ar : Arg)
      (ccl cl : Value) (cdd cld : Option Addr) (ccs csl : Array (Option Value)) (vs : Array Value) (file : Str) (tf : Tok),
    K.lookup fI = some ⟨oc, od, .func (ksFn "__init__" qual par (stS msg p1 p2 p3 p4 p5 :: fp.map stF) sc dV kV doc pm an (.ref cda) ct cc), osl⟩ ∧ codeIn K (.ref cda) qual = true ∧
    (par.posonlyargs ++ par.args).head? = some ar ∧ ar.arg = "self" ∧ K.lookup cda = some ⟨ccl, cdd, .fields vs, ccs⟩ ∧ vs[2]? = some (.str file tf) ∧ ((P.main.file : Str) == file) = true ∧
    K.lookup cc = some ⟨cl, cld, .cell (some (.ref C)), csl⟩ ∧ fp.map (·.1) = fs ∧ (p3.endLine == p4.line) = true ∧
    (sc.names.lookup ("super" : Str) = some .globalImplicit ∧ sc.names.lookup ("__class__" : Str) = some .free ∧ sc.names.lookup ("self" : Str) = some .local ∧ (∀ f ∈ fs, sc.names.lookup f = some .local) ∧ (∀ f ∈ fs, (f == ("__debug__" : Str)) = false) ∧ (∀ y ∈ sc.names, y.2 ≠ .cell)) ∧
    (sc.kind = .function ∧ sc.isGenerator = false ∧ sc.isCoroutine = false) ∧
    (∀ (s : Shared) (x : Value) (us : List Value), us.length = fs.length → BindsTo s (ksFn "__init__" qual par (stS msg p1 p2 p3 p4 p5 :: fp.map stF) sc dV kV doc pm an (.ref cda) ct cc) ⟨x :: us, []⟩ (("self", x) :: fs.zip us)) ∧
    (∀ (x : Value) (us : List Value), us.length = fs.length → ((("self" : Str), x) :: fs.zip us).reverse.lookup ("self" : Str) = some x ∧ Paired (fun f u => ((("self" : Str), x) :: fs.zip us).reverse.lookup f = some u) fs us) ∧
    ((tm = false ∧ ∃ (z : Str) (i : Nat) (p : Pos), msg = .Constant (.str z) i p) ∨ tm = true ∧ ∃ (z f : Str) (i : Nat) (p p' p'' : Pos), msg = .BinOp (.Constant (.str z) i p) .Add (.Name f p') p'' ∧ z.length ≤ 100 ∧ fs.head? = some f)
/-- what __init__ leaves of a fresh exception at x -/
structure InitEnd (h h' : Heap) (x C dx t1 : Addr) (fs : List Str) (vs : List L2.V) : Prop where
  keep : ∀ b o, b ≠ x → h.get? b = some o → h'.get? b = some o
  obj : h'.get? x = some { cls := .ref C, dict := some dx, data := .fields #[.ref t1, .none, .none, .none, .bool false, .none] }
  dbig : h.objs.size ≤ dx
  dne : dx ≠ x
  ns : ∃ mB, h'.Ns1 dx mB ∧ ∀ f, L2.RelO ((fs.zip vs).reverse.lookup f) (mB f)
/-- the built-in __init__, bound, called -/
theorem call_bw {h : Heap} {g : Array GenState} {d : Drawn} {t : Nat} {os : OsState} {u e t0 : Addr} {rest : List Value} {names : List Str} {Q : Value → Shared → Prop} (T : ClsK K C names) (X : K.In h)
    (he : h.get? e = some (excO C t0)) (hu : h.get? u = some (kxs_mw "ValueError.__init__" e)) (hrest : rest.length ≤ sizeLine)
    (hq : ∀ h' t1, (∀ b o, b ≠ e → h.get? b = some o → h'.get? b = some o) → h'.get? e = some (excO C t1) → Q .none ⟨h', g, d, t, os⟩) :
    wpAny (model prog w) A (call (.ref u) rest) Q E ⟨h, g, d, t, os⟩ := by
  obtain ⟨nm, q, N, bs, bm, sn, sub, ab, col, dd, k0, k1, k2, k3, k5, hC, hbm⟩ := T.cls
  refine wpAny_call (codeAny_of_tree ?_)
  show wpAny _ A.in1 (callAny (.ref u) ⟨rest, []⟩) _ _ _
  simp only [callAny]
  refine wpAny_bind (wpAny_load hu ?_)
  simp only [kxs_mw, show (Value.type "method-wrapper" == Value.type "method" || Value.type "method-wrapper" == Value.type "builtin_function_or_method" || Value.type "method-wrapper" == Value.type "method-wrapper") = true by decide, if_true]
  refine W.KFB.if_so (by decide) ?_
  refine wpAny_bind (PySem.W.check_bound_init F.excBase_ValueError.toExcCallFacts (X _ _ hC) he rfl ?_)
  refine wpAny_bind (wpAny_pure (wpAny_pure ?_))
  refine ⟨plainId_quiet F.excBase_ValueError.init.plain _, codeAny_builtin F.excBase_ValueError.initEntry ?_⟩
  exact exc_init_tree (cls := .ref C) (t0 := t0) (dv := none) (c2 := .none) (c3 := .none) (b4 := .bool false) he hrest fun h' k e' _ => hq h' _ k e'
/-- the text that super().__init__ gets -/
def MsgOk (msg : Expr) (env : Env) (m : Str → Option Value) : Prop := ∀ (prog : Program) (w : World) (A : Around) (E : Value → Shared → Prop) (s : Shared) (Q : Value → Shared → Prop), s.heap.Ns env.locals m → (∀ v tk, Q v { s with toks := tk }) → wpAny (model prog w) A (eval msg env) Q E s
/-- its __init__, called -/
theorem err_init {mg : Str → Option Value} {cn : Str} {fI : Addr} {fs : List Str} {tm : Bool} (T : ErrTxt prog K mg tm cn C fI fs) {x t0 : Addr} {us : List Value} {vs : List L2.V} {mb : Str → Option Value} {R : Result → Shared → Prop} (hv : L2.Vals vs us) (hl : us.length = fs.length) (hl8 : fs.length ≤ 8) (hne : fs ≠ [])
    (hmsg : tm = true → ∀ u, us.head? = some u → ∃ (z : Str) (t : Tok), u = .str z t ∧ z.length ≤ 1000)
    (X : K.In s.heap) (hlim : s.heap.NoLimit) (hg : s.heap.Ns mainGlobals mg) (hb : s.heap.Ns builtinsNs mb) (hbs : mb "super" = bootBuiltins "super") (hx : s.heap.get? x = some (excO C t0)) (hnx : K.lookup x = none) (hroom : A.depth < recursionLimit)
    (hq : ∀ h' tk dx t1, InitEnd s.heap h' x C dx t1 fs vs → R (.ok (.ret .none)) { s with heap := h', toks := tk }) :
    codeAny (model prog w) A (.call (.ref fI) ⟨.ref x :: us, []⟩) R s := by
  obtain ⟨oc, od, qual, par, sc, msg, p1, p2, p3, p4, p5, fp, dV, kV, doc, pm, an, cda, cc, ct, osl, ar, ccl, cl, cdd, cld, ccs, csl, avs, file, tf, ho, hcd, har, hself, hcda, hfile, hfe, hcell, hfp, hpos, ⟨nS, nC, nSelf, nF, nD, nCell⟩, ⟨kF, kG, kCo⟩, hbind, hlook, hm⟩ := T.fn
  obtain ⟨lself, lf⟩ := hlook (.ref x) us hl
  obtain ⟨cd, hcd2, hmro, hhd⟩ := T.toClsK.data
  obtain ⟨oD, hD1, hD2⟩ : ∃ oD, s.heap.get? C = some oD ∧ oD.data = .cls cd := by
    unfold clsIn at hcd2
    split at hcd2
    · rename_i c d cd' sl ho'
      cases hcd2
      exact ⟨_, X _ _ ho', rfl⟩
    · cases hcd2
  have hxC : x ≠ C := fun z => by
    rw [z, hD1] at hx
    cases hx
    cases hD2
  refine ks_codeAny_call_defAt (fd := ksFn "__init__" qual par (stS msg p1 p2 p3 p4 p5 :: fp.map stF) sc dV kV doc pm an (.ref cda) ct cc) (body := stS msg p1 p2 p3 p4 p5 :: fp.map stF) (binds := ("self", .ref x) :: fs.zip us) hroom (X _ _ ho) rfl hlim (codeRec_of X hcd) rfl (hbind s (.ref x) us hl) nCell ?_ (fun h₁ hns hk₁ => ?_) kCo kG kF
  · intro y hy
    rcases List.mem_cons.mp hy with rfl | hy
    · exact nSelf
    · exact nF _ (List.of_mem_zip hy).1
  have X₁ : K.In h₁ := X.keeps hk₁
  have hx₁ := hk₁ _ _ hx
  have hLx : s.heap.objs.size ≠ x := Nat.ne_of_gt (Heap.lt_size hx)
  have hMsg : MsgOk msg (ksEnv qual sc s.heap.objs.size fI (.ref cda) cc) (fun y => (((("self" : Str), Value.ref x) :: fs.zip us).reverse.lookup y)) := by
    intro prog w A E s1 Q hn1 hq1
    rcases hm with ⟨_, z, i, p, rfl⟩ | ⟨htm, z, f, i, p, p', p'', rfl, hz, hf⟩
    · exact wpAny_Constant_str (hq1 _ _)
    · cases lf with
      | nil => cases hf
      | cons h1 _ =>
        cases hf
        obtain ⟨z2, t2, rfl, hz2⟩ := hmsg htm _ rfl
        refine wpAny_BinOp (wpAny_Constant_str (ld (env := ksEnv qual sc s.heap.objs.size fI (.ref cda) cc) hn1 h1 ?_ kF (nF _ (List.mem_cons_self ..)) (nD _ (List.mem_cons_self ..))))
        exact add_str (fun t' tk => hq1 _ _) (by rw [sizeLine_eq]; omega)
  obtain ⟨kind, names, isG, isC, more⟩ := sc
  dsimp only at kF kG kCo nS nC nSelf nF nCell
  subst kF kG kCo
  obtain ⟨pl, he⟩ : ∃ pl, eval (.Call (.Attribute (.Call (.Name "super" p1) [] [] p2) "__init__" p3) [msg] [] p4) (ksEnv qual ⟨.function, names, false, false, more⟩ s.heap.objs.size fI (.ref cda) cc) = (do
      let ov ← attributeBase (.Call (.Name "super" p1) [] [] p2) "__init__" (ksEnv qual ⟨.function, names, false, false, more⟩ s.heap.objs.size fI (.ref cda) cc) (eval (.Call (.Name "super" p1) [] [] p2) (ksEnv qual ⟨.function, names, false, false, more⟩ s.heap.objs.size fI (.ref cda) cc))
      standAt p3.atName
      let (f, first) ← holding [ov] (getMethod ov "__init__" pl)
      callWith p4 f first (backTo p4 (starEach [msg] (ksEnv qual ⟨.function, names, false, false, more⟩ s.heap.objs.size fI (.ref cda) cc))) []) := by
    have hmp : ∀ o env, methodCallPos true o env p3 p4 = pure p4 := fun o env => by
      unfold methodCallPos
      rw [hpos] <;> rfl
    have key : ∀ ms : Expr, methodCallForm ([ms].length + ([] : List Keyword).length) (backTo p4 (starEach [ms] (ksEnv qual ⟨.function, names, false, false, more⟩ s.heap.objs.size fI (.ref cda) cc))) (backToKw p4 (keywordEach [] (ksEnv qual ⟨.function, names, false, false, more⟩ s.heap.objs.size fI (.ref cda) cc))) = true →
        eval (.Call (.Attribute (.Call (.Name "super" p1) [] [] p2) "__init__" p3) [ms] [] p4) (ksEnv qual ⟨.function, names, false, false, more⟩ s.heap.objs.size fI (.ref cda) cc) = (do
      let ov ← attributeBase (.Call (.Name "super" p1) [] [] p2) "__init__" (ksEnv qual ⟨.function, names, false, false, more⟩ s.heap.objs.size fI (.ref cda) cc) (eval (.Call (.Name "super" p1) [] [] p2) (ksEnv qual ⟨.function, names, false, false, more⟩ s.heap.objs.size fI (.ref cda) cc))
      standAt p3.atName
      let (f, first) ← holding [ov] (getMethod ov "__init__" (do return (← importBound (.Call (.Name "super" p1) [] [] p2) (ksEnv qual ⟨.function, names, false, false, more⟩ s.heap.objs.size fI (.ref cda) cc)).getD true))
      callWith p4 f first (backTo p4 (starEach [ms] (ksEnv qual ⟨.function, names, false, false, more⟩ s.heap.objs.size fI (.ref cda) cc))) []) := by
      intro ms hf
      show (do
        let ov ← attributeBase (.Call (.Name "super" p1) [] [] p2) "__init__" (ksEnv qual ⟨.function, names, false, false, more⟩ s.heap.objs.size fI (.ref cda) cc) (eval (.Call (.Name "super" p1) [] [] p2) (ksEnv qual ⟨.function, names, false, false, more⟩ s.heap.objs.size fI (.ref cda) cc))
        standAt p3.atName
        methodCall (.Call (.Name "super" p1) [] [] p2) "__init__" p3 p4 (ksEnv qual ⟨.function, names, false, false, more⟩ s.heap.objs.size fI (.ref cda) cc) ov ([ms].length + ([] : List Keyword).length) (backTo p4 (starEach [ms] (ksEnv qual ⟨.function, names, false, false, more⟩ s.heap.objs.size fI (.ref cda) cc))) (backToKw p4 (keywordEach [] (ksEnv qual ⟨.function, names, false, false, more⟩ s.heap.objs.size fI (.ref cda) cc)))) = _
      unfold methodCall
      simp only [hf, hmp, pure_bind]
      rfl
    rcases hm with ⟨_, z, i, p, rfl⟩ | ⟨htm, z, f, i, p, p', p'', rfl, hz, hf⟩
    · exact ⟨_, key _ rfl⟩
    · exact ⟨_, key _ rfl⟩
  have hst : starEach [msg] (ksEnv qual ⟨.function, names, false, false, more⟩ s.heap.objs.size fI (.ref cda) cc) = [(false, eval msg (ksEnv qual ⟨.function, names, false, false, more⟩ s.heap.objs.size fI (.ref cda) cc))] := by
    rcases hm with ⟨_, z, i, p, rfl⟩ | ⟨htm, z, f, i, p, p', p'', rfl, hz, hf⟩
    · rfl
    · rfl
  -- super().__init__(..)
  refine ks_wpAt_execs_cons (ks_wpAt_Expr_any (ks_wpAt_MethodCall (pl := pl) ?_ he))
  refine ks_wpAt_super_base (env := ksEnv qual ⟨.function, names, false, false, more⟩ s.heap.objs.size fI (.ref cda) cc) nS nC (by decide) rfl (hk₁ _ _ (X _ _ ho)) rfl har rfl (X₁ _ _ hcda) rfl hfile hfe T.top ?_
  refine ks_loadName_global rfl nS (loadGlobal_builtin (env := ksEnv qual ⟨.function, names, false, false, more⟩ s.heap.objs.size fI (.ref cda) cc) (hg.keeps hk₁) T.msup (hb.keeps hk₁) (hbs.trans (by first | boot_by_name | rfl | kernel_rfl)) ⟨rfl, ?_⟩)
  refine wpAny_loadName_free rfl nC rfl ⟨_, X₁ _ _ hcell, rfl⟩ ?_
  rw [hself]
  refine wpAny_loadName_local rfl nSelf hns lself ?_
  refine ks_wpAny_isType_cls (hk₁ _ _ hD1) hD2 ⟨rfl, ?_⟩
  refine ks_wpAny_call_super (hk₁ _ _ hD1) hD2 hx₁ rfl (fun c e => by cases e) (looks_mroIn X₁ T.mro) (fun h₂ eso k₂ => ?_)
  have X₂ : K.In h₂ := X₁.keeps k₂
  have hx₂ := k₂ _ _ hx₁
  have hnsU : ∀ {h : Heap}, (∀ b o, h₁.get? b = some o → h.get? b = some o) → h.Ns s.heap.objs.size (fun y => ((("self" : Str), Value.ref x) :: fs.zip us).reverse.lookup y) := fun {h} k => hns.keeps k
  have hsup := T.sup
  unfold ks_superIn at hsup
  rw [hcd2] at hsup
  refine kxs_getMethod kxs_ValueError (K := K) eso (looks_opaque X₂ T.opq) (l₀ := cd.mro) ?_ rfl X₂ hsup ?_ hxC (by decide) ?_
  · exact fun A Q E s k q => wpAny_bind ((looks_clsIn X₂ hcd2) A _ E s k (wpAny_pure q))
  · exact (InstAt.type (od := none) ⟨hx₂, rfl, rfl, trivial⟩).andThen (looks_subIn X₂ T.veC)
  · have k₃ : ∀ b o, h₂.get? b = some o → (h₂.push (kxs_mw "ValueError.__init__" x)).get? b = some o := fun b o e => Heap.get?_push_of_some _ e
    show wpAny _ _ (callWith p4 (.ref h₂.objs.size) [] (backTo p4 (starEach [msg] (ksEnv qual ⟨.function, names, false, false, more⟩ s.heap.objs.size fI (.ref cda) cc))) []) _ _ _
    rw [hst]
    refine kxs_callWith (i := "ValueError.__init__") (x := x) rfl (evalArgs_plain ?_)
    refine spliced_cons ?_
    refine hMsg prog w _ _ _ _ (hnsU fun b o e => k₃ b o (k₂ b o e)) (fun v tk => spliced_nil ⟨?_, ?_⟩)
    · exact Heap.get?_push_at rfl rfl
    · refine call_bw T.toClsK (X₂.keeps k₃) (k₃ _ _ hx₂) (Heap.get?_push_at rfl rfl) (by rw [sizeLine_eq]; exact (by decide : 1 ≤ 16777216)) (fun h₄ t1 k₄ hx₄ => ?_)
      have hsz : ∀ {b : Addr} {o : Obj}, s.heap.get? b = some o → b ≠ x → h₄.get? b = some o := fun {b o} e hb => k₄ b o hb (k₃ b o (k₂ b o (hk₁ b o e)))
      have hL4 : h₄.Ns s.heap.objs.size (fun y => ((("self" : Str), Value.ref x) :: fs.zip us).reverse.lookup y) := by
        obtain ⟨o, es, ep, e1, e2⟩ := hns
        exact ⟨o, es, ep, k₄ _ _ hLx (k₃ _ _ (k₂ _ _ e1)), e2⟩
      cases fp with
      | nil => exact absurd hfp.symm (by simpa using hne)
      | cons q fp =>
        have hP : Paired (fun (q : FP) u => ((("self" : Str), Value.ref x) :: fs.zip us).reverse.lookup q.1 = some u) (q :: fp) us := by
          rw [← hfp] at lf
          have key : ∀ (m : Str → Option Value) (l : List FP) (us : List Value), Paired (fun f u => m f = some u) (l.map (·.1)) us → Paired (fun (q : FP) u => m q.1 = some u) l us := by
            intro m l
            induction l with
            | nil => intro us h; cases h; exact .nil
            | cons a l ih => intro us h; cases h with | cons h1 h2 => exact .cons h1 (ih _ h2)
          have := key (fun y => ((("self" : Str), Value.ref x) :: fs.zip us).reverse.lookup y) (q :: fp) us (by simpa [hfp] using lf)
          exact this
        show wpAt _ _ _ (execs ((q :: fp).map stF) _) _ _ _
        refine wpAt_of_wpAny (stores_new (m := fun y => (((("self" : Str), Value.ref x) :: fs.zip us).reverse.lookup y)) T.toClsK (env := ksEnv qual ⟨.function, names, false, false, more⟩ s.heap.objs.size fI (.ref cda) cc) rfl nSelf lself q fp us vs hv (fun q' hq' => ?_) hP ⟨h₄, s.gens, s.drawn, tk, s.os⟩ _ ((fun a o e => hsz (X a o e) (fun z => by rw [z, hnx] at e; cases e))) hL4 hLx hnx hx₄ ?_ (fun h' tk' dx mB k5 dn dne hx5 hn5 r5 => ?_))
        · have hin : q'.1 ∈ fs := by rw [← hfp]; exact List.mem_map_of_mem hq'
          exact ⟨hin, nF _ hin, nD _ hin⟩
        · have : (q :: fp).length = fs.length := by rw [← hfp, List.length_map]
          simp only [List.length_cons] at this
          omega
        · refine hq h' tk' dx t1 ⟨fun b o hb e => k5 b o hb (hsz e hb), hx5, ?_, dne, mB, hn5, ?_⟩
          · refine Nat.le_trans ?_ dn
            have z1 : s.heap.objs.size < h₄.objs.size := by
              obtain ⟨o, es, ep, e1, e2⟩ := hL4
              exact Heap.lt_size e1
            exact Nat.le_of_lt z1
          · intro f
            have := r5 f
            rw [hfp] at this
            exact this
/-- a made error -/
structure OwnMade (h h' : Heap) (e C d : Addr) (fs : List Str) (vs : List L2.V) : Prop where
  keep : ∀ b o, h.get? b = some o → h'.get? b = some o
  new : h.objs.size ≤ e
  obj : ∃ oe as, h'.get? e = some oe ∧ oe.cls = .ref C ∧ oe.dict = some d ∧ oe.data = .fields as ∧ as[1]? = some .none
  dbig : h.objs.size ≤ d
  dne : d ≠ e
  ns : ∃ mB, h'.Ns1 d mB ∧ ∀ f, L2.RelO ((fs.zip vs).reverse.lookup f) (mB f)
theorem err_made {mg : Str → Option Value} {cn : Str} {fI : Addr} {fs : List Str} {tm : Bool} (T : ErrTxt prog K mg tm cn C fI fs) {us : List Value} {vs : List L2.V} {mb : Str → Option Value} {R : Result → Shared → Prop} (hv : L2.Vals vs us) (hl : us.length = fs.length) (hl8 : fs.length ≤ 8) (hne : fs ≠ [])
    (hmsg : tm = true → ∀ u, us.head? = some u → ∃ (z : Str) (t : Tok), u = .str z t ∧ z.length ≤ 1000)
    (X : K.In s.heap) (hlim : s.heap.NoLimit) (hg : s.heap.Ns mainGlobals mg) (hb : s.heap.Ns builtinsNs mb) (hbs : mb "super" = bootBuiltins "super") (hroom : A.depth + 1 < recursionLimit)
    (hq : ∀ h' tk e d, OwnMade s.heap h' e C d fs vs → R (.ok (.ret (.ref e))) { s with heap := h', toks := tk }) :
    codeAny (model prog w) A (.call (.ref C) ⟨us, []⟩) R s := by
  obtain ⟨nm, q, N, bs, bm, sn, sub, ab, col, dd, k0, k1, k2, k3, k5, hC, hbm⟩ := T.cls
  obtain ⟨hp, g, dr, tk, os⟩ := s
  have k : ∀ b o, hp.get? b = some o → ((hp.push (kdv_tup us)).push (excO C hp.objs.size)).get? b = some o := fun b o e => Heap.get?_push_of_some _ (Heap.get?_push_of_some _ e)
  have hget : ((hp.push (kdv_tup us)).push (excO C hp.objs.size)).get? (hp.objs.size + 1) = some (excO C hp.objs.size) := by heap_get
  have hnx : K.lookup (hp.objs.size + 1) = none := by
    cases e : K.lookup (hp.objs.size + 1) with
    | none => rfl
    | some o =>
      have z : hp.get? (hp.objs.size + 1) = some o := X _ _ e
      exact absurd (Nat.lt_of_succ_lt (Heap.lt_size z)) (Nat.lt_irrefl _)
  refine call_own F.excBase_ValueError (fun X => refsVE_contains X bm hbm) (X _ _ hC) (looks_findIn X T.iC) (fun self => bind_fn X self T.tC) (by rw [sizeLine_eq]; omega) ?_
  refine err_init (s := ⟨(hp.push (kdv_tup us)).push (excO C hp.objs.size), g, dr, tk, os⟩) T hv hl hl8 hne hmsg (X.keeps k) (hlim.keeps k) (hg.keeps k) (hb.keeps k) hbs hget hnx ?_ fun h' tk' dx t1 ⟨k', hx, dn, dne, hns⟩ => ?_
  · show A.depth + 1 < recursionLimit
    exact hroom
  · have old : ∀ b o, hp.get? b = some o → h'.get? b = some o := fun b o e => k' b o (Nat.ne_of_lt (Nat.lt_succ_of_lt (Heap.lt_size e))) (k b o e)
    have z : hp.objs.size + 1 + 1 ≤ dx := by
      first
        | (simpa only [Heap.size_push] using dn)
        | exact dn
        | (have q := dn; rw [Heap.size_push, Heap.size_push] at q; exact q)
    exact ⟨rfl, hq h' tk' (hp.objs.size + 1) dx ⟨old, Nat.le_succ _, ⟨_, _, hx, rfl, rfl, rfl, rfl⟩, Nat.le_trans (Nat.le_trans (Nat.le_succ _) (Nat.le_succ _)) z, dne, hns⟩⟩
end
end HErr
end PySem
namespace L2
open PySem PySem.Spec PyProof.Rows PySem.HErr
section
variable {X : Cx} {C fI : Addr} {cn : Str} {fs : List Str} {tm : Bool}
/-- C(e, ..), an error of the package -/
def tMkE (tm : Bool) (C : Addr) (fs : List Str) (ta : TA) : St → Hp → XK → Prop := fun σ H Q => ta σ H fun vs H1 => vs.length = fs.length ∧ (tm = true → ∃ (z : Str) (r : List V), vs = .str z :: r ∧ z.length ≤ 1000) ∧
  ∀ d, H1 d = none → Q (.ref C) (some d) (upd H1 d (.xd (fs.zip vs).reverse))
theorem pmk_err {a : Expr} {as : List Expr} {ta : TA} {p pos : Pos} {k : Nat} (T : ErrTxt X.prog X.K X.mg tm cn C fI fs) (hr : Room k X.A) (ha : PA X (a :: as) ta) (hl8 : fs.length ≤ 8) (hne : fs ≠ []) (hg : Gl X cn := by rfl) (hdb : (cn == ("__debug__" : Str)) = false := by decide)
    (he : starEach (a :: as) X.env = (false, eval a X.env) :: starEach as X.env := by rfl) (hpl : (backTo pos (starEach as X.env)).any (·.1) = false := by rfl) :
    PMk X (.Call (.Name cn p) (a :: as) [] pos) (tMkE tm C fs ta) := by
  intro pins s σ H Q I h
  refine wpAny_Call_Name_kw (ld_glob I hg T.gC ?_ hdb)
  refine PySem.W.callWith_K (h₀ := X.base) I.ok.mod.kin T.kC (thn (ha.run pos pins s σ H _ I h) fun us s1 hh => ?_) he hpl
  obtain ⟨vs, H1, I1, r1, hl, hz, q1⟩ := hh
  refine ⟨I1.kIn, ?_⟩
  show wpAny _ _ (call (.ref C) us) _ _ _
  have hlim := I1.nolimit
  obtain ⟨mb, hb1, hb2⟩ := I1.mod.blt
  have hgl := I1.mod.glob.keeps I1.bk
  have hbl := hb1.keeps I1.bk
  obtain ⟨hp, g, dr, tk, os⟩ := s1
  refine wpAny_call (err_made (mb := mb) T r1 (r1.length.symm.trans hl) hl8 hne ?_ I1.kIn hlim hgl hbl (hb2 "super" (by decide)) (by have := hr.dp; omega) fun h' tk' e d M => ?_)
  · intro ht u hu
    obtain ⟨z, r, rfl, hz5⟩ := hz ht
    cases r1 with
    | cons r0 _ =>
      cases hu
      obtain ⟨t, rfl⟩ := r0
      exact ⟨z, t, rfl, hz5⟩
  show MkP X pins σ Q (.ref e) ⟨h', g, dr, tk', os⟩
  obtain ⟨oe, fv, hoe, hc, hd, hdat, h1⟩ := M.obj
  obtain ⟨mB, hns, hrel⟩ := M.ns
  obtain ⟨G', g1, g2⟩ := restrict h' fun b => decide (b ≠ e)
  have gk : ∀ b, b ≠ e → G'.get? b = h'.get? b := fun b hb => g1 b (decide_eq_true hb)
  have ge : G'.get? e = none := g2 e (by simp)
  have old : ∀ b o, hp.get? b = some o → G'.get? b = some o := fun b o q => (gk b (Nat.ne_of_lt (Nat.lt_of_lt_of_le (Heap.lt_size q) M.new))).trans (M.keep b o q)
  have ob : ObjOk X.prog X.w (upd H1 d (.xd (fs.zip vs).reverse)) G' d (.xd (fs.zip vs).reverse) :=
    ⟨mB, hns.at (fun o q => (gk d M.dne).trans q), hrel⟩
  have J : Inv X pins σ (upd H1 d (.xd (fs.zip vs).reverse)) ⟨G', g, dr, tk', os⟩ := I1.laid (t' := tk') old M.dbig ob
  refine ⟨e, oe, fv, ⟨G', g, dr, tk', os⟩, _, .ref C, some d, rfl, J, fun b o q => ?_, ge, hoe, ⟨hc, hd⟩, hdat, h1, ?_, rfl, I1.bare, raises_own T.exC T.tyC, q1 d (I1.hok.fresh M.dbig)⟩
  · by_cases hb : b = e
    · have q' : G'.get? b = some o := q
      rw [hb, ge] at q'; cases q'
    · exact (gk b hb).symm.trans q
  · rw [upd_ne (Ne.symm M.dne)]
    exact I1.hok.fresh M.new
/-- raise C(e, ..) -/
def tRaiseE (tm : Bool) (C : Addr) (fs : List Str) (W : WX) (ta : TA) : TS := fun _ σ H => tMkE tm C fs ta σ H fun cls d H' => W cls d σ H'
theorem ps_raiseE {a : Expr} {as : List Expr} {ta : TA} {W : WX} {p pos pos2 : Pos} {k : Nat} (hc : X.calm = true) (T : ErrTxt X.prog X.K X.mg tm cn C fI fs) (hr : Room k X.A) (tk : Takes X W) (ha : PA X (a :: as) ta) (hl8 : fs.length ≤ 8 := by decide) (hne : fs ≠ [] := by decide) (hg : Gl X cn := by rfl) (hdb : (cn == ("__debug__" : Str)) = false := by decide)
    (he : starEach (a :: as) X.env = (false, eval a X.env) :: starEach as X.env := by rfl) (hpl : (backTo pos (starEach as X.env)).any (·.1) = false := by rfl) :
    PS X (.Raise (some (.Call (.Name cn p) (a :: as) [] pos)) none pos2) (tRaiseE tm C fs W ta) := ps_raise hc tk (pmk_err T hr ha hl8 hne hg hdb he hpl)
end
end L2
set_option Elab.async false
set_option linter.all false
set_option maxRecDepth 100000
set_option maxHeartbeats 4000000
namespace L2
open PySem PySem.Spec PyProof.Rows PySem.HErr
end L2
set_option Elab.async false
set_option linter.all false
set_option maxRecDepth 100000
set_option maxHeartbeats 4000000
namespace L2
open PySem PySem.Spec PyProof.Rows PySem.HErr
/-- none of these built-ins is shadowed -/
structure Bl (mg : Str → Option Value) : Prop where
  len : mg "len" = none
  range : mg "range" = none
  abs : mg "abs" = none
  sum : mg "sum" = none
  sorted : mg "sorted" = none
  isinstance : mg "isinstance" = none
  zip : mg "zip" = none
  enumerate : mg "enumerate" = none
  reversed : mg "reversed" = none
  int' : mg "int" = none
  str' : mg "str" = none
  list' : mg "list" = none
  tuple' : mg "tuple" = none
  bool' : mg "bool" = none
  all' : mg "all" = none
  any' : mg "any" = none
  ValueError : mg "ValueError" = none
/-- the module's name x is the value v -/
def Glo (mg : Str → Option Value) (x : Str) (v : V) : Prop := ∃ u, mg x = some u ∧ RelV v u
/-- where a def's text stands -/
def LkF (K : PySem.W.Frag) (f : Addr) (fd : FuncData) : Prop := ∃ (oc : Value) (od : Option Addr) (osl : Array (Option Value)), K.lookup f = some ⟨oc, od, .func fd, osl⟩
/-- a def, with whatever defaults -/
structure FunA (K : PySem.W.Frag) (x qual : Str) (st : Stmt) (f : Addr) (fd : FuncData) : Prop where
  ex : ∃ (oc : Value) (od : Option Addr) (dV kV doc pm : Value) (an : Option Addr) (cdv ct : Value) (osl : Array (Option Value)),
    fd = PySem.W.fnOf x qual (defArgs st) (defBody st) (defScope st) dV kV doc pm an cdv ct ∧ K.lookup f = some ⟨oc, od, .func fd, osl⟩ ∧ PySem.W.codeIn K cdv qual = true
  kp : PySem.W.keepIn K (.ref f) = true
section
variable {P : Program} {w : World} {K : PySem.W.Frag} {mg : Str → Option Value} {base : Heap}
theorem FunA.lk {x qual : Str} {st : Stmt} {f : Addr} {fd : FuncData} (F : FunA K x qual st f fd) : LkF K f fd := by
  obtain ⟨oc, od, dV, kV, doc, pm, an, cdv, ct, osl, _, lk, _⟩ := F.ex
  exact ⟨oc, od, osl, lk⟩
theorem PySem_Fun_a {x qual : Str} {st : Stmt} {f : Addr} {fd : FuncData} (F : Fun K x qual st f fd) : FunA K x qual st f fd := by
  obtain ⟨oc, od, kV, doc, pm, an, cdv, ct, osl, e, lk, hcd⟩ := F.ex
  exact ⟨⟨oc, od, .none, kV, doc, pm, an, cdv, ct, osl, e, lk, hcd⟩, F.kp⟩
theorem FunA.ok {x qual : Str} {st : Stmt} {f : Addr} {fd : FuncData} {N ps : List Str} {k : Nat} {sp : Sp} (F : FunA K x qual st f fd) (S : FnScope N ps (defScope st)) (len : ∀ vs H Q E, sp vs H Q E → vs.length = ps.length)
    (hbody : ∀ (cdv : Value) (A : Around) (outer : List Env) (s : Shared) (H : Hp) (vs : List V) (Q : VK) (E : XK), Room k (A.deeper (envOfC qual (defScope st) s.heap.objs.size f cdv)) → sp vs H Q E →
      ∃ t, PSs (cxOf CX0 P w K mg base N qual (defScope st) f cdv A outer s H E).nox (defBody st) t ∧ t { nx := fun _ H' => Q .non H', rt := Q } (start N vs) H) : FnOk P w K mg base CX0 (k + 1) f fd ps sp := by
  obtain ⟨oc, od, dV, kV, doc, pm, an, cdv, ct, osl, rfl, lk, hcd⟩ := F.ex
  refine fn_of lk hcd S len fun A outer s H vs Q E hr hsp => ?_
  obtain ⟨t, h, q⟩ := hbody cdv A outer s H vs Q E hr hsp
  exact ⟨t, h.nox, q⟩
theorem FunA.okX {x qual : Str} {st : Stmt} {f : Addr} {fd : FuncData} {N ps : List Str} {k : Nat} {sp : Sp} (F : FunA K x qual st f fd) (S : FnScope N ps (defScope st)) (len : ∀ vs H Q E, sp vs H Q E → vs.length = ps.length)
    (hbody : ∀ (cdv : Value) (A : Around) (outer : List Env) (s : Shared) (H : Hp) (vs : List V) (Q : VK) (E : XK), Room k (A.deeper (envOfC qual (defScope st) s.heap.objs.size f cdv)) → sp vs H Q E →
      ∃ t, PSs (cxOf (L2.CX P w) P w K mg base N qual (defScope st) f cdv A outer s H E) (defBody st) t ∧ t { nx := fun _ H' => Q .non H', rt := Q } (start N vs) H) : FnOk P w K mg base (L2.CX P w) (k + 1) f fd ps sp := by
  obtain ⟨oc, od, dV, kV, doc, pm, an, cdv, ct, osl, rfl, lk, hcd⟩ := F.ex
  exact fn_of lk hcd S len fun A outer s H vs Q E hr hsp => hbody cdv A outer s H vs Q E hr hsp
end
/-- a def of the text stands where its name says -/
structure Src (K : PySem.W.Frag) (mg : Str → Option Value) (x : Str) (st : Stmt) (ps : List Str) : Prop where
  ex : ∃ f fd, FunA K x x st f fd ∧ mg x = some (.ref f) ∧ Binds K fd ps []
/-- the def x keeps the promise sp -/
structure Def (P : Program) (w : World) (K : PySem.W.Frag) (mg : Str → Option Value) (base : Heap) (CX : CXT) (k : Nat) (x : Str) (ps : List Str) (sp : Sp) : Prop where
  ex : ∃ f fd, LkF K f fd ∧ mg x = some (.ref f) ∧ PySem.W.keepIn K (.ref f) = true ∧ Binds K fd ps [] ∧ FnOk P w K mg base CX k f fd ps sp
section
variable {P : Program} {w : World} {K : PySem.W.Frag} {mg : Str → Option Value} {base : Heap} {CX : CXT} {x : Str} {st : Stmt} {N ps : List Str} {k : Nat} {sp : Sp}
theorem Def.mono {j : Nat} (D : Def P w K mg base CX j x ps sp) (h : j ≤ k) : Def P w K mg base CX k x ps sp := by
  obtain ⟨f, fd, hlk, h1, h2, h3, h4⟩ := D.ex
  exact ⟨f, fd, hlk, h1, h2, h3, h4.mono h⟩
theorem Def.imp {sp' : Sp} (D : Def P w K mg base CX k x ps sp) (h : ∀ vs H Q E, sp' vs H Q E → sp vs H Q E) : Def P w K mg base CX k x ps sp' := by
  obtain ⟨f, fd, hlk, h1, h2, h3, h4⟩ := D.ex
  exact ⟨f, fd, hlk, h1, h2, h3, h4.imp h⟩
theorem Src.ok (F : Src K mg x st ps) (S : FnScope N ps (defScope st)) (len : ∀ vs H Q E, sp vs H Q E → vs.length = ps.length)
    (hbody : ∀ (f : Addr) (cdv : Value) (A : Around) (outer : List Env) (s : Shared) (H : Hp) (vs : List V) (Q : VK) (E : XK), Room k (A.deeper (envOfC x (defScope st) s.heap.objs.size f cdv)) → sp vs H Q E →
      ∃ t, PSs (cxOf CX0 P w K mg base N x (defScope st) f cdv A outer s H E).nox (defBody st) t ∧ t { nx := fun _ H' => Q .non H', rt := Q } (start N vs) H) : Def P w K mg base CX0 (k + 1) x ps sp := by
  obtain ⟨f, fd, h1, h2, h3⟩ := F.ex
  exact ⟨f, fd, h1.lk, h2, h1.kp, h3, h1.ok S len (hbody f)⟩
theorem Src.okX (F : Src K mg x st ps) (S : FnScope N ps (defScope st)) (len : ∀ vs H Q E, sp vs H Q E → vs.length = ps.length)
    (hbody : ∀ (f : Addr) (cdv : Value) (A : Around) (outer : List Env) (s : Shared) (H : Hp) (vs : List V) (Q : VK) (E : XK), Room k (A.deeper (envOfC x (defScope st) s.heap.objs.size f cdv)) → sp vs H Q E →
      ∃ t, PSs (cxOf (L2.CX P w) P w K mg base N x (defScope st) f cdv A outer s H E) (defBody st) t ∧ t { nx := fun _ H' => Q .non H', rt := Q } (start N vs) H) : Def P w K mg base (L2.CX P w) (k + 1) x ps sp := by
  obtain ⟨f, fd, h1, h2, h3⟩ := F.ex
  exact ⟨f, fd, h1.lk, h2, h1.kp, h3, h1.okX S len (hbody f)⟩
end
section
variable {X : Cx} {CX : CXT} {k : Nat} {ps : List Str} {sp : Sp} {x : Str} {p pos : Pos} {e : Expr} {es : List Expr} {t : TA}
theorem pe_def {E : XK} (D : Def X.prog X.w X.K X.mg X.base CX k x ps sp) (hr : Room k X.A) (hx : Passes CX X E) (ha : PA X (e :: es) t) (hg : Gl X x := by rfl)
    (hdb : (x == ("__debug__" : Str)) = false := by decide) (he : starEach (e :: es) X.env = (false, eval e X.env) :: starEach es X.env := by rfl) (hpl : (backTo pos (starEach es X.env)).any (·.1) = false := by rfl) :
    PE X (.Call (.Name x p) (e :: es) [] pos) (tCall sp [] E t) := by
  obtain ⟨f, fd, hlk, h1, h2, h3, h4⟩ := D.ex
  exact pe_call h4 hr hg h1 h2 h3 .nil hx ha hdb he hpl
theorem pe_glo {v : V} (h : Glo X.mg x v) (hg : Gl X x := by rfl) (hd : (x == ("__debug__" : Str)) = false := by decide) : PE X (.Name x p) (tC v) := by
  obtain ⟨u, h1, h2⟩ := h
  exact pe_glob hg h1 h2 hd
end
section
variable {X : Cx} {K : PySem.W.Frag}
def rLenQ (K : PySem.W.Frag) : List V → Hp → VK → Prop := fun xs H Q => ∃ p ys, xs = [.ref p] ∧ (SqL K H p ys ∨ SqT K H p ys) ∧ Q (.int ys.length) H
def rListQ (K : PySem.W.Frag) : List V → Hp → VK → Prop := fun xs H Q => ∃ p ys, xs = [.ref p] ∧ (SqL K H p ys ∨ SqT K H p ys) ∧ ∀ l, H l = none → Q (.ref l) (upd H l (.lst ys))
def rTupQ (K : PySem.W.Frag) : List V → Hp → VK → Prop := fun xs H Q => ∃ p ys, xs = [.ref p] ∧ ((SqL K H p ys ∧ ∀ l, H l = none → Q (.ref l) (upd H l (.tup ys))) ∨ (SqT K H p ys ∧ Q (.ref p) H))
theorem kix_list (h : X.K = K := by rfl) : IxR X (rIxL K) := h ▸ ix_list
theorem kix_tup (h : X.K = K := by rfl) : IxR X (rIxT K) := h ▸ ix_tup
theorem ksl_list (h : X.K = K := by rfl) : SlR X (rSlL K) := h ▸ sl_list
theorem kop_in (h : X.K = K := by rfl) : OpR X (compareOp .In) (rIn K false) := h ▸ op_in_seq
theorem kop_notIn (h : X.K = K := by rfl) : OpR X (compareOp .NotIn) (rIn K true) := h ▸ op_notIn_seq
theorem kop_eqD (hu : X.A.units + 64 < cLine) (h : X.K = K := by rfl) : OpR X (compareOp .Eq) (rEqD K) := h ▸ op_eqD hu
theorem kop_neD (hu : X.A.units + 64 < cLine) (h : X.K = K := by rfl) : OpR X (compareOp .NotEq) (rNeD K) := h ▸ op_neD hu
theorem kcall_len (h : X.K = K := by rfl) : CallR X (.builtin "len") (rLenQ K) := h ▸ call_len_seq
theorem kcall_list (h : X.K = K := by rfl) : CallR X (.type "list") (rListQ K) := h ▸ call_list_of
theorem kcall_tuple (h : X.K = K := by rfl) : CallR X (.type "tuple") (rTupQ K) := h ▸ call_tuple_of
theorem kcr_all (hc : X.calm = true) (h : X.K = K := by rfl) : CallR X (.builtin "all") (rAll K) := h ▸ cr_all hc
theorem kcall_isi (h : X.K = K := by rfl) : CallR X (.builtin "isinstance") (rIsi K) := h ▸ call_isi
theorem kpi_list {tg l : Expr} {tl : TE} (hl : PE X l tl) (h : X.K = K := by rfl) : PI X tg l (iList K tl) := h ▸ pi_list hl
theorem kpi_tup {tg l : Expr} {tl : TE} (hl : PE X l tl) (h : X.K = K := by rfl) : PI X tg l (iTup K tl) := h ▸ pi_tup hl
theorem kpe_fld {e : Expr} {f : Str} {pos : Pos} {ta : TE} (he : PE X e ta) (hb : attributeBase e f X.env (eval e X.env) = eval e X.env := by rfl) (h : X.K = K := by rfl) : PE X (.Attribute e f pos) (tFld K ta f) := h ▸ pe_fld he hb
end
/-- a comprehension without an if; with one -/
theorem yes_if {σ : St} {H : Hp} {A B : Hp → Prop} (h : A H) : tYes σ H (fun b H3 => if b = true then A H3 else B H3) := by
  show (if true = true then A H else B H)
  rw [if_pos rfl]
  exact h
theorem same_upd {H : Hp} {p : Addr} {o : HO} (h : H p = none) : Same H (upd H p o) := fun b x e => by
  rw [upd_ne (ne_of_none e h)]
  exact e
/-- all that was tracked is as it was, but for what stands at b -/
def SameB (b : Addr) (H H' : Hp) : Prop := ∀ a o, a ≠ b → H a = some o → H' a = some o
theorem SameB.refl (b : Addr) (H : Hp) : SameB b H H := fun _ _ _ h => h
theorem SameB.trans {b : Addr} {H H1 H2 : Hp} (x : SameB b H H1) (y : SameB b H1 H2) : SameB b H H2 := fun a o n h => y a o n (x a o n h)
theorem Same.b {b : Addr} {H H' : Hp} (h : Same H H') : SameB b H H' := fun a o _ e => h a o e
theorem SameB.upd {b : Addr} {H H' : Hp} {o : HO} (h : SameB b H H') : SameB b H (upd H' b o) := fun a u n e => by
  rw [upd_ne n]
  exact h a u n e
theorem SameB.new {b p : Addr} {H H' : Hp} {o : HO} (h : SameB b H H') (n : H' p = none) : SameB b H (L2.upd H' p o) := fun a u hn e => by
  have := h a u hn e
  rw [upd_ne (ne_of_none this n)]
  exact this
/-- an object that H does not know may change -/
theorem SameB.mut {b p : Addr} {H H' : Hp} {o : HO} (h : SameB b H H') (n : H p = none) : SameB b H (L2.upd H' p o) := fun a u hn e => by
  rw [upd_ne (ne_of_none e n)]
  exact h a u hn e
theorem SameB.free {b l : Addr} {H H' : Hp} (e : SameB b H H') (hb : l ≠ b) (h : H' l = none) : H l = none := by
  cases q : H l with
  | none => rfl
  | some o =>
    rw [e l o hb q] at h
    cases h
theorem SameB.seq {K : PySem.W.Frag} {b : Addr} {H H' : Hp} {a : Addr} {xs : List V} (e : SameB b H H') (n : a ≠ b) (h : SqL K H a xs) : SqL K H' a xs := by
  rcases h with (h | ⟨o, h⟩) | h
  · exact .inl (.inl (e _ _ n h))
  · exact .inl (.inr ⟨o, e _ _ n h⟩)
  · exact .inr h
/-- an error of the class at C with these fields is what E wants, whatever was made meanwhile -/
def Rais (E : XK) (H : Hp) (C : Addr) (fs : List (Str × V)) : Prop := ∀ H' d, Same H H' → H d = none → H' d = some (.xd fs) → E (.ref C) (some d) H'
theorem Rais.go {E : XK} {H H' : Hp} {C d : Addr} {fs : List (Str × V)} (h : Rais E H C fs) (sm : Same H H') (n : H' d = none) : E (.ref C) (some d) (upd H' d (.xd fs)) :=
  h _ d (sm.trans (same_upd n)) (sm.free n) upd_same
/-- the law's box of draws stands at b, its script at l -/
structure Box (H : Hp) (b l : Addr) : Prop where
  ex : ∃ (ns : List Int) (i c r : Int), H b = some (.lst [.int i, .int c, .int r, .ref l]) ∧ H l = some (.lst (ns.map V.int)) ∧ 0 ≤ i ∧ l ≠ b
theorem Box.keep {H H' : Hp} {b l : Addr} (h : Box H b l) (e : Same H H') : Box H' b l := by
  obtain ⟨ns, i, c, r, h1, h2, h3, h4⟩ := h.ex
  exact ⟨ns, i, c, r, e _ _ h1, e _ _ h2, h3, h4⟩
theorem Box.neb {H : Hp} {b l p : Addr} (h : Box H b l) (n : H p = none) : p ≠ b := fun e => by
  obtain ⟨ns, i, c, r, h1, h2, h3, h4⟩ := h.ex
  rw [e, h1] at n
  cases n
theorem Box.nel {H : Hp} {b l p : Addr} (h : Box H b l) (n : H p = none) : p ≠ l := fun e => by
  obtain ⟨ns, i, c, r, h1, h2, h3, h4⟩ := h.ex
  rw [e, h2] at n
  cases n
theorem Box.mut {H : Hp} {b l p : Addr} {o : HO} (h : Box H b l) (nb : p ≠ b) (nl : p ≠ l) : Box (upd H p o) b l := by
  obtain ⟨ns, i, c, r, h1, h2, h3, h4⟩ := h.ex
  exact ⟨ns, i, c, r, by rw [upd_ne (Ne.symm nb)]; exact h1, by rw [upd_ne (Ne.symm nl)]; exact h2, h3, h4⟩
/-- from H to H' only draws were taken and new objects made -/
structure Bx (b l : Addr) (H H' : Hp) : Prop where
  sm : SameB b H H'
  b0 : Box H b l
  b1 : Box H' b l
theorem Bx.trans {b l : Addr} {H H1 H2 : Hp} (x : Bx b l H H1) (y : Bx b l H1 H2) : Bx b l H H2 := ⟨x.sm.trans y.sm, x.b0, y.b1⟩
theorem Bx.same {b l : Addr} {H H1 H2 : Hp} (x : Bx b l H H1) (y : Same H1 H2) : Bx b l H H2 := ⟨x.sm.trans y.b, x.b0, x.b1.keep y⟩
theorem Bx.new {b l p : Addr} {H H' : Hp} {o : HO} (x : Bx b l H H') (n : H' p = none) : Bx b l H (upd H' p o) := x.same (same_upd n)
theorem Bx.mut {b l p : Addr} {H H' : Hp} {o : HO} (x : Bx b l H H') (n : H p = none) : Bx b l H (upd H' p o) := ⟨x.sm.mut n, x.b0, x.b1.mut (x.b0.neb n) (x.b0.nel n)⟩
theorem Bx.free {b l p : Addr} {H H' : Hp} (x : Bx b l H H') (n : H' p = none) : H p = none := x.sm.free (x.b1.neb n) n
theorem Bx.at {b l a : Addr} {H H' : Hp} {o : HO} (x : Bx b l H H') (h : H a = some o) (n : a ≠ b) : H' a = some o := x.sm a o n h
theorem Bx.seq {K : PySem.W.Frag} {b l : Addr} {H H' : Hp} {a : Addr} {xs : List V} (x : Bx b l H H') (n : a ≠ b) (h : SqL K H a xs) : SqL K H' a xs := x.sm.seq n h
/-- a text of ASCII signs -/
def Asc (z : Str) : Prop := ∀ c ∈ z.cps.toList, c < 128
theorem Asc.ok {z : Str} (h : Asc z) : PyData.strOk z = true := by
  unfold PyData.strOk
  rw [← Array.all_toList, List.all_eq_true]
  intro c hc
  have := h c hc
  exact decide_eq_true (by omega)
theorem Asc.app {x y : Str} (hx : Asc x) (hy : Asc y) : Asc (x ++ y) := by
  intro c hc
  rw [Str.cps_append, Array.toList_append] at hc
  rcases List.mem_append.mp hc with h | h
  · exact hx c h
  · exact hy c h
theorem Asc.one {c : Nat} (h : c < 128) : Asc ⟨#[c]⟩ := by
  intro d hd
  have : d = c := by simpa using hd
  omega
mutual
def nb : PyData → Bool
  | .none => true
  | .int _ => true
  | .str x => PyData.strOk x
  | .list xs => nbAll xs
  | .tuple xs => nbAll xs
  | .bool _ => false
  | .dict _ => false
def nbAll : List PyData → Bool
  | [] => true
  | x :: xs => nb x && nbAll xs
end
mutual
theorem lay_nb : ∀ d : PyData, nb d = true → PyData.canLay0 d = true
  | .none, _ => by simp only [PyData.canLay0]
  | .int _, _ => by simp only [PyData.canLay0]
  | .str x, h => by simp only [nb] at h; simp only [PyData.canLay0, h]
  | .list xs, h => by simp only [nb] at h; simp only [PyData.canLay0]; exact lay_nbAll xs h
  | .tuple xs, h => by simp only [nb] at h; simp only [PyData.canLay0]; exact lay_nbAll xs h
  | .bool _, h => by simp only [nb] at h; cases h
  | .dict _, h => by simp only [nb] at h; cases h
theorem lay_nbAll : ∀ ds : List PyData, nbAll ds = true → PyData.canLayAll0 ds = true
  | [], _ => by simp only [PyData.canLayAll0]
  | x :: xs, h => by
    simp only [nbAll, Bool.and_eq_true] at h
    simp only [PyData.canLayAll0, lay_nb x h.1, lay_nbAll xs h.2, Bool.and_self]
end
mutual
theorem eqv_nb : ∀ d e : PyData, nb d = true → nb e = true → (PyData.eqv d e = true ↔ d = e)
  | .none, e, _, he => by cases e <;> simp [PyData.eqv]
  | .int i, e, _, he => by cases e <;> simp [PyData.eqv, nb] at he ⊢
  | .str x, e, _, he => by cases e <;> simp [PyData.eqv]
  | .list xs, e, hd, he => by
    cases e with
    | list ys =>
      simp only [nb] at hd he
      simp only [PyData.eqv, eqv_nbAll xs ys hd he, PyData.list.injEq]
    | _ => simp [PyData.eqv]
  | .tuple xs, e, hd, he => by
    cases e with
    | tuple ys =>
      simp only [nb] at hd he
      simp only [PyData.eqv, eqv_nbAll xs ys hd he, PyData.tuple.injEq]
    | _ => simp [PyData.eqv]
  | .bool _, _, h, _ => by simp only [nb] at h; cases h
  | .dict _, _, h, _ => by simp only [nb] at h; cases h
theorem eqv_nbAll : ∀ ds es : List PyData, nbAll ds = true → nbAll es = true → (PyData.eqvAll ds es = true ↔ ds = es)
  | [], [], _, _ => by simp [PyData.eqvAll]
  | [], _ :: _, _, _ => by simp [PyData.eqvAll]
  | _ :: _, [], _, _ => by simp [PyData.eqvAll]
  | x :: xs, y :: ys, hd, he => by
    simp only [nbAll, Bool.and_eq_true] at hd he
    simp only [PyData.eqvAll, Bool.and_eq_true, eqv_nb x y hd.1 he.1, eqv_nbAll xs ys hd.2 he.2, List.cons.injEq]
end
theorem depthAll_le {n : Nat} : ∀ {ds : List PyData}, (∀ d ∈ ds, d.depth ≤ n) → PyData.depthAll ds ≤ n
  | [], _ => by simp [PyData.depthAll]
  | d :: ds, h => by
    simp only [PyData.depthAll]
    exact Nat.max_le.mpr ⟨h d (List.mem_cons_self ..), depthAll_le fun x hx => h x (List.mem_cons_of_mem _ hx)⟩
theorem shaped_of {d : PyData} (h : nb d = true) (hd : d.depth ≤ 64) : SeqAt.shaped d = true := by
  unfold SeqAt.shaped
  rw [lay_nb d h, decide_eq_true hd]
  rfl
theorem inV_strs (n : Str) (ws : List Str) : inV (.str n) (ws.map V.str) = decide (n ∈ ws) := by
  unfold inV
  rw [Bool.eq_iff_iff, List.any_eq_true, decide_eq_true_iff]
  constructor
  · rintro ⟨y, hy, e⟩
    obtain ⟨z, hz, rfl⟩ := List.mem_map.mp hy
    have e : z = n := by simpa [eqV] using e
    exact e ▸ hz
  · intro h
    exact ⟨.str n, List.mem_map_of_mem h, by simp [eqV]⟩
theorem flat_strsB (ws : List Str) : (ws.map V.str).all flatV = true := by
  rw [List.all_eq_true]
  intro y hy
  obtain ⟨z, hz, rfl⟩ := List.mem_map.mp hy
  rfl
/-- a list or a tuple -/
def Sq (K : PySem.W.Frag) (H : Hp) (a : Addr) (xs : List V) : Prop := SqL K H a xs ∨ SqT K H a xs
theorem Same.seqT {K : PySem.W.Frag} {H H' : Hp} {a : Addr} {xs : List V} (e : Same H H') (h : SqT K H a xs) : SqT K H' a xs := by
  rcases h with (h | ⟨o, h⟩) | h
  · exact .inl (.inl (e _ _ h))
  · exact .inl (.inr ⟨o, e _ _ h⟩)
  · exact .inr h
theorem Same.sq {K : PySem.W.Frag} {H H' : Hp} {a : Addr} {xs : List V} (e : Same H H') (h : Sq K H a xs) : Sq K H' a xs := h.elim (fun h => .inl (e.seq h)) (fun h => .inr (e.seqT h))
theorem map_get {α : Type} {f : α → V} {l : List α} {i : Nat} {x : V} (h : (l.map f)[i]? = some x) : ∃ z, l[i]? = some z ∧ x = f z := by
  rw [List.getElem?_map] at h
  cases e : l[i]? with
  | none => rw [e] at h; cases h
  | some z => rw [e] at h; exact ⟨z, rfl, (Option.some.inj h).symm⟩
theorem take_more {α : Type} {l : List α} {i : Nat} {x : α} (h : l[i]? = some x) : l.take (i + 1) = l.take i ++ [x] := by
  rw [List.take_add_one, h]
  rfl
section
variable {K : PySem.W.Frag} {H H' : Hp}
mutual
theorem Dp.keep (e : Same H H') : ∀ (d : PyData) (v : V), Dp K H v d → Dp K H' v d
  | .none, _, h => by cases h; exact .non
  | .bool _, _, h => by cases h; exact .bl _
  | .int _, _, h => by cases h; exact .int _
  | .str _, _, h => by cases h; exact .str _
  | .list ds, _, h => by
    cases h with
    | lst hs ha => exact .lst (e.seq hs) (DpAll.keep e ds _ ha)
  | .tuple ds, _, h => by
    cases h with
    | tup hs ha => exact .tup (e.seqT hs) (DpAll.keep e ds _ ha)
  | .dict _, _, h => by cases h
theorem DpAll.keep (e : Same H H') : ∀ (ds : List PyData) (vs : List V), DpAll K H vs ds → DpAll K H' vs ds
  | [], _, h => by cases h; exact .nil
  | d :: ds, _, h => by
    cases h with
    | cons h1 h2 => exact .cons (Dp.keep e d _ h1) (DpAll.keep e ds _ h2)
end
end
def LETTERS : Str := "abcdefghijklmnopqrstuvwxyz"
def DIGITS : Str := "0123456789"
def okc (c : Nat) : Bool := decide (c ∈ LETTERS.cps.toList) || decide (c ∈ DIGITS.cps.toList)
def wd (l : List Nat) : Bool := decide (1 ≤ l.length ∧ l.length ≤ 12) && (decide (l.headD 0 ∈ LETTERS.cps.toList) && l.all okc)
theorem len_cps (z : Str) : z.length = z.cps.toList.length := rfl
theorem all_take {α : Type} {p : α → Bool} {l : List α} {i : Nat} {c : α} (h : l[i]? = some c) : (l.take (i + 1)).map p = (l.take i).map p ++ [p c] := by
  rw [List.take_add_one, h, List.map_append]
  rfl
theorem all_id {α : Type} (p : α → Bool) (l : List α) : (l.map p).all id = l.all p := by
  rw [List.all_map]
  rfl
theorem wd_inv {l : List Nat} (h : wd l = true) : ∃ c r, l = c :: r ∧ c ∈ LETTERS.cps.toList ∧ (∀ d ∈ l, okc d = true) ∧ l.length ≤ 12 := by
  unfold wd at h
  rw [Bool.and_eq_true, Bool.and_eq_true] at h
  obtain ⟨h1, h2, h3⟩ := h
  have h1 := of_decide_eq_true h1
  have h2 := of_decide_eq_true h2
  cases l with
  | nil => exact absurd h1.1 (by decide)
  | cons c r => exact ⟨c, r, rfl, h2, List.all_eq_true.mp h3, h1.2⟩
theorem okc_lt {c : Nat} (h : okc c = true) : c < 128 := by
  unfold okc at h
  rw [Bool.or_eq_true, decide_eq_true_iff, decide_eq_true_iff] at h
  rcases h with h | h
  · exact of_decide_eq_true (List.all_eq_true.mp (show LETTERS.cps.toList.all (fun c => decide (c < 128)) = true by decide) c h)
  · exact of_decide_eq_true (List.all_eq_true.mp (show DIGITS.cps.toList.all (fun c => decide (c < 128)) = true by decide) c h)
/-- a text that is a word -/
def Wd (z : Str) : Prop := wd z.cps.toList = true
theorem Wd.asc {z : Str} (h : Wd z) : Asc z := fun c hc => by
  obtain ⟨_, _, _, _, ho, _⟩ := wd_inv h
  exact okc_lt (ho c hc)
theorem Wd.len {z : Str} (h : Wd z) : z.length ≤ 12 := by
  obtain ⟨_, _, _, _, _, hl⟩ := wd_inv h
  exact hl
/-- the first name at fault: true: not known; false: it occurred before -/
def chk (ks : List Str) : List Str → List Str → Option (Bool × Str)
  | _, [] => none
  | seen, n :: r => if n ∈ ks then (if n ∈ seen then some (false, n) else chk ks (seen ++ [n]) r) else some (true, n)
theorem chk_cons (ks seen : List Str) (n : Str) (r : List Str) : chk ks seen (n :: r) = if n ∈ ks then (if n ∈ seen then some (false, n) else chk ks (seen ++ [n]) r) else some (true, n) := rfl
theorem chk_none {ks : List Str} : ∀ {ws seen : List Str}, chk ks seen ws = none ↔ ws.Nodup ∧ (∀ w ∈ ws, w ∈ ks ∧ w ∉ seen)
  | [], seen => by simp [chk]
  | n :: r, seen => by
    rw [chk_cons]
    by_cases h1 : n ∈ ks
    · rw [if_pos h1]
      by_cases h2 : n ∈ seen
      · rw [if_pos h2]
        constructor
        · intro h; cases h
        · intro h; exact absurd h2 (h.2 n (List.mem_cons_self ..)).2
      · rw [if_neg h2, chk_none, List.nodup_cons]
        constructor
        · rintro ⟨a, b⟩
          refine ⟨⟨fun hn => ?_, a⟩, fun w hw => ?_⟩
          · exact (b n hn).2 (List.mem_append_right _ (List.mem_singleton.mpr rfl))
          · rcases List.mem_cons.mp hw with rfl | hw
            · exact ⟨h1, h2⟩
            · exact ⟨(b w hw).1, fun h => (b w hw).2 (List.mem_append_left _ h)⟩
        · rintro ⟨⟨a, b⟩, c⟩
          refine ⟨b, fun w hw => ⟨(c w (List.mem_cons_of_mem _ hw)).1, fun h => ?_⟩⟩
          rcases List.mem_append.mp h with h | h
          · exact (c w (List.mem_cons_of_mem _ hw)).2 h
          · rw [List.mem_singleton.mp h] at hw
            exact a hw
    · rw [if_neg h1]
      constructor
      · intro h; cases h
      · intro h; exact absurd (h.2 n (List.mem_cons_self ..)).1 h1
theorem chk_mem {ks : List Str} {b : Bool} {n : Str} : ∀ {ws seen : List Str}, chk ks seen ws = some (b, n) → n ∈ ws
  | [], _, h => by cases h
  | m :: r, seen, h => by
    rw [chk_cons] at h
    by_cases h1 : m ∈ ks
    · rw [if_pos h1] at h
      by_cases h2 : m ∈ seen
      · rw [if_pos h2] at h
        cases h
        exact List.mem_cons_self ..
      · rw [if_neg h2] at h
        exact List.mem_cons_of_mem _ (chk_mem h)
    · rw [if_neg h1] at h
      cases h
      exact List.mem_cons_self ..
section
variable {P : Program} {K : PySem.W.Frag} {h : Heap} {mg : Str → Option Value}
theorem src_mk {x : Str} {st : Stmt} {ps : List Str} {f : Addr} {oc : Value} {od an : Option Addr} {osl : Array (Option Value)} {kV doc pm cdv ct : Value} (X : K.In h) (G : h.Ns mainGlobals mg)
    (a : PySem.W.nsIn K mainGlobals x = some (some (.ref f))) (l : K.lookup f = some ⟨oc, od, .func (PySem.W.fnOf x x (defArgs st) (defBody st) (defScope st) .none kV doc pm an cdv ct), osl⟩)
    (c : PySem.W.codeIn K cdv x = true) (k : PySem.W.keepIn K (.ref f) = true)
    (hb : ∀ (kV doc pm : Value) (an : Option Addr) (cdv ct : Value) (us : List Value), us.length = ps.length → bindArgs (PySem.W.fnOf x x (defArgs st) (defBody st) (defScope st) .none kV doc pm an cdv ct) ⟨us, []⟩ = pure (ps.zip us)) : Src K mg x st ps :=
  ⟨f, _, PySem_Fun_a (fun_mk l c k), PySem.W.mg_of X G a, (fun_mk (st := st) l c k).binds hb⟩
theorem glo_str {x z : Str} {t : Tok} (X : K.In h) (G : h.Ns mainGlobals mg) (a : PySem.W.nsIn K mainGlobals x = some (some (.str z t))) : Glo mg x (.str z) := ⟨_, PySem.W.mg_of X G a, t, rfl⟩
theorem glo_int {x : Str} {i : Int} {t : Tok} (X : K.In h) (G : h.Ns mainGlobals mg) (a : PySem.W.nsIn K mainGlobals x = some (some (.int i t))) : Glo mg x (.int i) := ⟨_, PySem.W.mg_of X G a, t, rfl⟩
theorem err_mk {cn qual : Str} {tm : Bool} {C fI : Addr} {fs : List Str} {st : Stmt} {nm q : Str} {N : Addr} {bs bm : List Value} {sn : List Str} {sub : List Value} {ab : Bool} {col : Option Bool} {dd : Option Addr} {m0 m1 m2 m3 m5 : Option Value}
    {oc : Value} {od an : Option Addr} {osl : Array (Option Value)} {kV doc pm ct : Value} {cda cc : Addr} {ccl cl : Value} {cdd cld : Option Addr} {ccs csl : Array (Option Value)} {vs : Array Value} {file : Str} {tf : Tok} {msg : Expr} {p1 p2 p3 p4 p5 : Pos} {fp : List FP} {ar : Arg}
    (X : K.In h) (G : h.Ns mainGlobals mg) (aC : PySem.W.nsIn K mainGlobals cn = some (some (.ref C))) (aS : PySem.W.nsIn K mainGlobals "super" = some none)
    (xL : K.lookup C = some (excClassObj nm q C N bs bm true sn sub ab col dd m0 m1 m2 m3 m5 "ValueError.__new__")) (hbm : PySem.HandSPX.refsVE bm = true)
    (sa : PySem.W.findIn K (.ref C) "__setattr__" = some (some (.builtin "object.__setattr__"))) (ga : PySem.W.findIn K (.ref C) "__getattribute__" = some (some (.builtin "BaseException.__getattribute__"))) (gg : PySem.W.findIn K (.ref C) "__getattr__" = some none)
    (noN : ∀ f ∈ fs, PySem.W.findIn K (.ref C) f = some none)
    (iC : PySem.W.findIn K (.ref C) "__init__" = some (some (.ref fI))) (tI : PySem.W.typeIn K (.ref fI) = some (.type "function")) (kC : PySem.W.keepIn K (.ref C) = true)
    (exC : PySem.W.subIn K (.ref C) (.type "BaseException") = some true) (veC : PySem.W.subIn K (.ref C) (.type "ValueError") = some true) (tyC : PySem.W.typeIn K (.ref C) = some (.type "type")) (hdC : PySem.W.hasDictIn K C = true)
    (sup : PySem.W.ks_superIn K C C "__init__" = some (some (.builtin "ValueError.__init__"))) (mro : PySem.W.mroIn K C (.ref C) = some true) (su : PySem.W.subIn K (.ref C) (.ref C) = some true)
    (ca : PySem.W.findIn K (.ref C) "__class__" = some (some (.builtin "object.__class__"))) (cg : PySem.W.specialIn K (.builtin "object.__class__") "__get__" = some (some (.builtin "getset_descriptor.__get__"))) (ct' : PySem.W.takesIn K (.builtin "object.__class__") = some true)
    (mo : PySem.W.mroIn K C (.type "object") = some true) (opq : PySem.W.nsIn K cStatics "thirdparty.any" = some none)
    (top : (P.main.scope.names.lookup ("super" : Str)).isSome = false)
    (l : K.lookup fI = some ⟨oc, od, .func (PySem.W.ksFn "__init__" qual (defArgs st) (defBody st) (defScope st) .none kV doc pm an (.ref cda) ct cc), osl⟩) (c : PySem.W.codeIn K (.ref cda) qual = true)
    (lc : K.lookup cda = some ⟨ccl, cdd, .fields vs, ccs⟩) (hv2 : vs[2]? = some (.str file tf)) (hfile : ((P.main.file : Str) == file) = true) (lcc : K.lookup cc = some ⟨cl, cld, .cell (some (.ref C)), csl⟩)
    (hbody : defBody st = stS msg p1 p2 p3 p4 p5 :: fp.map stF) (har : ((defArgs st).posonlyargs ++ (defArgs st).args).head? = some ar) (hself : ar.arg = "self") (hfp : fp.map (·.1) = fs) (hpos : (p3.endLine == p4.line) = true)
    (h1 : (defScope st).names.lookup ("super" : Str) = some .globalImplicit) (h2 : (defScope st).names.lookup ("__class__" : Str) = some .free) (h3 : (defScope st).names.lookup ("self" : Str) = some .local) (h4 : ∀ f ∈ fs, (defScope st).names.lookup f = some .local) (h5 : ∀ f ∈ fs, (f == ("__debug__" : Str)) = false) (h6 : ∀ y ∈ (defScope st).names, y.2 ≠ .cell)
    (h7 : (defScope st).kind = .function) (h8 : (defScope st).isGenerator = false) (h9 : (defScope st).isCoroutine = false)
    (hbind : ∀ (kV doc pm : Value) (an : Option Addr) (cda : Addr) (ct : Value) (cc : Addr) (s : Shared) (x : Value) (us : List Value), us.length = fs.length → BindsTo s (PySem.W.ksFn "__init__" qual (defArgs st) (defBody st) (defScope st) .none kV doc pm an (.ref cda) ct cc) ⟨x :: us, []⟩ (("self", x) :: fs.zip us))
    (hlook : ∀ (x : Value) (us : List Value), us.length = fs.length → ((("self" : Str), x) :: fs.zip us).reverse.lookup ("self" : Str) = some x ∧ Paired (fun f u => ((("self" : Str), x) :: fs.zip us).reverse.lookup f = some u) fs us)
    (hmsg : (tm = false ∧ ∃ (z : Str) (i : Nat) (p : Pos), msg = .Constant (.str z) i p) ∨ tm = true ∧ ∃ (z f : Str) (i : Nat) (p p' p'' : Pos), msg = .BinOp (.Constant (.str z) i p) .Add (.Name f p') p'' ∧ z.length ≤ 100 ∧ fs.head? = some f) :
    ErrTxt P K mg tm cn C fI fs where
  cls := ⟨nm, q, N, bs, bm, sn, sub, ab, col, dd, m0, m1, m2, m3, m5, xL, hbm⟩
  sa := sa
  noN := noN
  gC := PySem.W.mg_of X G aC
  ga := ga
  gg := gg
  iC := iC
  tC := tI
  kC := kC
  exC := exC
  veC := veC
  tyC := tyC
  hdC := hdC
  sup := sup
  mro := mro
  sub := su
  ca := ca
  cg := cg
  ct := ct'
  mo := mo
  opq := opq
  msup := PySem.W.mg_none_of X G aS
  top := top
  fn := by
    rw [hbody] at l
    refine ⟨oc, od, qual, defArgs st, defScope st, msg, p1, p2, p3, p4, p5, fp, .none, kV, doc, pm, an, cda, cc, ct, osl, ar, ccl, cl, cdd, cld, ccs, csl, vs, file, tf, l, c, har, hself, lc, hv2, hfile, lcc, hfp, hpos, ⟨h1, h2, h3, h4, h5, h6⟩, ⟨h7, h8, h9⟩, ?_, hlook, hmsg⟩
    intro s x us hl
    have := hbind kV doc pm an cda ct cc s x us hl
    rw [hbody] at this
    exact this
end
end L2
set_option Elab.async false
set_option linter.all false
set_option maxRecDepth 100000
set_option maxHeartbeats 4000000
namespace L2
open PySem PySem.Spec PyProof.Rows PySem.HErr
/-- a method of the text stands in its class -/
structure SrcM (K : PySem.W.Frag) (C : Addr) (m qual : Str) (st : Stmt) (ps : List Str) : Prop where
  ex : ∃ f fd, FunA K m qual st f fd ∧ Meth K C m f ∧ Binds K fd ps []
/-- the method m of the class at C keeps the promise sp -/
structure DefM (P : Program) (w : World) (K : PySem.W.Frag) (mg : Str → Option Value) (base : Heap) (CX : CXT) (k : Nat) (C : Addr) (m : Str) (ps : List Str) (sp : Sp) : Prop where
  ex : ∃ f fd, LkF K f fd ∧ Meth K C m f ∧ Binds K fd ps [] ∧ FnOk P w K mg base CX k f fd ps sp
/-- __init__ of the class at C stands in it; ds: the values of defaults that are left out -/
structure SrcI (K : PySem.W.Frag) (C : Addr) (qual : Str) (st : Stmt) (ps : List Str) : Prop where
  ex : ∃ f fd, FunA K "__init__" qual st f fd ∧ Mk K C f ∧ Binds K fd ps []
structure DefI (P : Program) (w : World) (K : PySem.W.Frag) (mg : Str → Option Value) (base : Heap) (CX : CXT) (k : Nat) (C : Addr) (ps : List Str) (sp : Sp) : Prop where
  ex : ∃ f fd, LkF K f fd ∧ Mk K C f ∧ Binds K fd ps [] ∧ FnOk P w K mg base CX k f fd ps sp
section
variable {P : Program} {w : World} {K : PySem.W.Frag} {mg : Str → Option Value} {base : Heap} {CX : CXT} {m qual : Str} {C : Addr} {st : Stmt} {N ps : List Str} {k : Nat} {sp : Sp}
theorem DefM.mono {j : Nat} (D : DefM P w K mg base CX j C m ps sp) (h : j ≤ k) : DefM P w K mg base CX k C m ps sp := by
  obtain ⟨f, fd, hlk, h1, h2, h3⟩ := D.ex
  exact ⟨f, fd, hlk, h1, h2, h3.mono h⟩
theorem DefI.mono {j : Nat} (D : DefI P w K mg base CX j C ps sp) (h : j ≤ k) : DefI P w K mg base CX k C ps sp := by
  obtain ⟨f, fd, hlk, h1, h2, h3⟩ := D.ex
  exact ⟨f, fd, hlk, h1, h2, h3.mono h⟩
theorem SrcM.ok (F : SrcM K C m qual st ps) (S : FnScope N ps (defScope st)) (len : ∀ vs H Q E, sp vs H Q E → vs.length = ps.length)
    (hbody : ∀ (f : Addr) (cdv : Value) (A : Around) (outer : List Env) (s : Shared) (H : Hp) (vs : List V) (Q : VK) (E : XK), Room k (A.deeper (envOfC qual (defScope st) s.heap.objs.size f cdv)) → sp vs H Q E →
      ∃ t, PSs (cxOf CX0 P w K mg base N qual (defScope st) f cdv A outer s H E).nox (defBody st) t ∧ t { nx := fun _ H' => Q .non H', rt := Q } (start N vs) H) : DefM P w K mg base CX0 (k + 1) C m ps sp := by
  obtain ⟨f, fd, h1, h2, h3⟩ := F.ex
  exact ⟨f, fd, h1.lk, h2, h3, h1.ok S len (hbody f)⟩
theorem SrcM.okX (F : SrcM K C m qual st ps) (S : FnScope N ps (defScope st)) (len : ∀ vs H Q E, sp vs H Q E → vs.length = ps.length)
    (hbody : ∀ (f : Addr) (cdv : Value) (A : Around) (outer : List Env) (s : Shared) (H : Hp) (vs : List V) (Q : VK) (E : XK), Room k (A.deeper (envOfC qual (defScope st) s.heap.objs.size f cdv)) → sp vs H Q E →
      ∃ t, PSs (cxOf (L2.CX P w) P w K mg base N qual (defScope st) f cdv A outer s H E) (defBody st) t ∧ t { nx := fun _ H' => Q .non H', rt := Q } (start N vs) H) : DefM P w K mg base (L2.CX P w) (k + 1) C m ps sp := by
  obtain ⟨f, fd, h1, h2, h3⟩ := F.ex
  exact ⟨f, fd, h1.lk, h2, h3, h1.okX S len (hbody f)⟩
theorem SrcI.okX (F : SrcI K C qual st ps) (S : FnScope N ps (defScope st)) (len : ∀ vs H Q E, sp vs H Q E → vs.length = ps.length)
    (hbody : ∀ (f : Addr) (cdv : Value) (A : Around) (outer : List Env) (s : Shared) (H : Hp) (vs : List V) (Q : VK) (E : XK), Room k (A.deeper (envOfC qual (defScope st) s.heap.objs.size f cdv)) → sp vs H Q E →
      ∃ t, PSs (cxOf (L2.CX P w) P w K mg base N qual (defScope st) f cdv A outer s H E) (defBody st) t ∧ t { nx := fun _ H' => Q .non H', rt := Q } (start N vs) H) : DefI P w K mg base (L2.CX P w) (k + 1) C ps sp := by
  obtain ⟨f, fd, h1, h2, h3⟩ := F.ex
  exact ⟨f, fd, h1.lk, h2, h3, h1.okX S len (hbody f)⟩
theorem SrcI.ok (F : SrcI K C qual st ps) (S : FnScope N ps (defScope st)) (len : ∀ vs H Q E, sp vs H Q E → vs.length = ps.length)
    (hbody : ∀ (f : Addr) (cdv : Value) (A : Around) (outer : List Env) (s : Shared) (H : Hp) (vs : List V) (Q : VK) (E : XK), Room k (A.deeper (envOfC qual (defScope st) s.heap.objs.size f cdv)) → sp vs H Q E →
      ∃ t, PSs (cxOf CX0 P w K mg base N qual (defScope st) f cdv A outer s H E).nox (defBody st) t ∧ t { nx := fun _ H' => Q .non H', rt := Q } (start N vs) H) : DefI P w K mg base CX0 (k + 1) C ps sp := by
  obtain ⟨f, fd, h1, h2, h3⟩ := F.ex
  exact ⟨f, fd, h1.lk, h2, h3, h1.ok S len (hbody f)⟩
end
theorem passAt0 {X : Cx} (σ : St) : PassesAt CX0 X σ E0 := fun _ _ _ _ _ _ h => h.elim
theorem Passes.at {CX : CXT} {X : Cx} {E : XK} (h : Passes CX X E) (σ : St) : PassesAt CX X σ E := fun pins H s e s' I c => h pins σ H s e s' I c
/-- o.m(..) -/
def tMetD (C : Addr) (m : Str) (sp : Sp) (E : St → XK) (ta : TE) (t : TA) : TE := fun σ H Q => ta σ H fun x H1 => ∃ a dx fs, x = .ref a ∧ H1 a = some (.ins C dx fs) ∧ fs.lookup m = none ∧ t σ H1 fun vs H2 => sp (x :: vs) H2 Q (E σ)
/-- C(..) -/
def tMkD (C : Addr) (sp : Sp) (E : St → XK) (t : TA) : TE := fun σ H Q => t σ H fun vs H1 => ∀ x dx, H1 x = none → H1 dx = none → dx ≠ x →
  sp (.ref x :: vs) (upd (upd H1 dx (.own x)) x (.ins C dx [])) (fun v H2 => v = .non ∧ Q (.ref x) H2) (E σ)
section
variable {X : Cx} {CX : CXT} {k : Nat} {C : Addr} {ps : List Str} {sp : Sp} {E : St → XK} {x m : Str} {p pos apos : Pos} {e o : Expr} {es : List Expr} {ta : TE} {t : TA}
theorem pe_metD {pl : Sem Bool} (D : DefM X.prog X.w X.K X.mg X.base CX k C m ps sp) (c : Cls X.K C) (hr : Room k X.A) (hx : ∀ σ, PassesAt CX X σ (E σ)) (he : PE X o ta) (ha : PA X (e :: es) t)
    (hst : starEach (e :: es) X.env = (false, eval e X.env) :: starEach es X.env := by rfl) (hpl : (backTo pos (starEach es X.env)).any (·.1) = false := by rfl)
    (ht : eval (.Call (.Attribute o m apos) (e :: es) [] pos) X.env = (do
      let ov ← eval o X.env
      standAt apos.atName
      let (f, first) ← holding [ov] (getMethod ov m pl)
      callWith pos f first (backTo pos (starEach (e :: es) X.env)) (backToKw pos (keywordEach [] X.env))) := by rfl) :
    PE X (.Call (.Attribute o m apos) (e :: es) [] pos) (tMetD C m sp E ta t) := by
  obtain ⟨f, fd, hlk, hm, hb, F⟩ := D.ex
  refine ⟨fun pins s σ H Q I h => ?_⟩
  refine PySem.W.methodCall_KW (pl := pl) (thn (he.run pins s σ H _ I h) fun u s1 ⟨x, H1, I1, rx, a, dx, fs, ex, ea, l, q⟩ => ?_) ht
  subst ex
  obtain rfl : u = Value.ref a := rx
  refine getmeth_ok I1 ea c hm l ?_
  refine PySem.W.callWith_K (first := [.ref a]) (h₀ := X.base) I.ok.mod.kin hm.kp (thn (ha.run pos pins s1 σ H1 _ I1 q) fun us s2 ⟨vs, H2, I2, r, q2⟩ => ⟨I2.kIn, ?_⟩) hst hpl
  exact run_fnS (us := .ref a :: us) (vs := .ref a :: vs) F hr hb (hx σ) I2 (.cons rfl r) q2
theorem pe_metD0 {pl : Sem Bool} (D : DefM X.prog X.w X.K X.mg X.base CX k C m ps sp) (c : Cls X.K C) (hr : Room k X.A) (hx : ∀ σ, PassesAt CX X σ (E σ)) (he : PE X o ta)
    (ht : eval (.Call (.Attribute o m apos) [] [] pos) X.env = (do
      let ov ← eval o X.env
      standAt apos.atName
      let (f, first) ← holding [ov] (getMethod ov m pl)
      callWith pos f first (backTo pos (starEach [] X.env)) (backToKw pos (keywordEach [] X.env))) := by rfl) :
    PE X (.Call (.Attribute o m apos) [] [] pos) (tMetD C m sp E ta tNil) := by
  obtain ⟨f, fd, hlk, hm, hb, F⟩ := D.ex
  refine ⟨fun pins s σ H Q I h => ?_⟩
  refine PySem.W.methodCall_KW (pl := pl) (thn (he.run pins s σ H _ I h) fun u s1 ⟨x, H1, I1, rx, a, dx, fs, ex, ea, l, q⟩ => ?_) ht
  subst ex
  obtain rfl : u = Value.ref a := rx
  refine getmeth_ok I1 ea c hm l ?_
  exact PySem.W.callWith_K0 (first := [.ref a]) I1.kIn hm.kp (run_fnS (us := [.ref a]) (vs := [.ref a]) F hr hb (hx σ) I1 (.cons rfl .nil) q)
theorem pe_mkD (D : DefI X.prog X.w X.K X.mg X.base CX k C ps sp) (hm : X.mg x = some (.ref C)) (hr : Room (k + 1) X.A) (hx : ∀ σ, PassesAt CX X σ (E σ)) (ha : PA X (e :: es) t) (hg : Gl X x := by rfl)
    (hdb : (x == ("__debug__" : Str)) = false := by decide) (he : starEach (e :: es) X.env = (false, eval e X.env) :: starEach es X.env := by rfl) (hpl : (backTo pos (starEach es X.env)).any (·.1) = false := by rfl) :
    PE X (.Call (.Name x p) (e :: es) [] pos) (tMkD C sp E t) := by
  obtain ⟨f, fd, hlk, M, hb, F⟩ := D.ex
  refine ⟨fun pins s0 σ H0 Q I0 h0 => ?_⟩
  refine wpAny_Call_Name_kw (ld_glob I0 hg hm ?_ hdb)
  refine PySem.W.callWith_K (h₀ := X.base) I0.ok.mod.kin M.kp (thn (ha.run pos pins s0 σ H0 _ I0 h0) fun us s ⟨vs, H, I, r, h⟩ => ⟨I.kIn, ?_⟩) he hpl
  show wpAny _ _ (call (.ref C) us) _ _ _
  have hq := h (s.heap.objs.size + 1) s.heap.objs.size (I.hok.fresh (Nat.le_succ _)) (I.hok.fresh (Nat.le_refl _)) (Nat.ne_of_lt (Nat.lt_succ_self _))
  have I2 := Inv.made (C := C) I
  have r2 : Vals (V.ref (s.heap.objs.size + 1) :: vs) (Value.ref (s.heap.objs.size + 1) :: us) := .cons rfl r
  have hl : ((Value.ref (s.heap.objs.size + 1) :: us) ++ []).length = ps.length := by
    have e := r2.length
    rw [F.len _ _ _ _ hq] at e
    rw [List.append_nil]
    exact e.symm
  have hbb := hb _ (Value.ref (s.heap.objs.size + 1) :: us) I2.kIn hl
  rw [List.append_nil] at hbb
  refine wpAny_call (make_map (f := f) I.kIn M.makes M.init (beq_iff_eq.mp M.fn) (codeAny_mono (F.run _ X.stack _ _ ⟨Value.ref (s.heap.objs.size + 1) :: us, []⟩ (Value.ref (s.heap.objs.size + 1) :: us) _ _ (E σ) (hr.make C us [])
    (I2.env0.make C us []) hbb r2 hq) fun r s' hq' => ?_))
  cases r with
  | error e => exact hx σ pins _ _ e s' I2 hq'
  | ok fl =>
    cases fl with
    | ret u =>
      obtain ⟨v, H', I3, rv, ev, q3⟩ := I2.after hq'
      subst ev
      exact ⟨rv, ⟨V.ref (s.heap.objs.size + 1), H', I3, rfl, q3⟩⟩
    | next => exact False.elim hq'
    | brk => exact False.elim hq'
    | cont => exact False.elim hq'
theorem kps_fld {K : PySem.W.Frag} {f : Str} {value : Expr} {pos' : Pos} {tv : TE} (ha : PE X o ta) (hv : PE X value tv) (hs : swapsWith value (some (.Attribute o f pos')) pos.line X.env = pure false := by rfl) (hK : X.K = K := by rfl) :
    PS X (.Assign [.Attribute o f pos'] value pos) (sFld K ta tv f) := hK ▸ ps_fld ha hv hs
theorem srcM_mk {K : PySem.W.Frag} {qual : Str} {st : Stmt} {f : Addr} {oc : Value} {od an : Option Addr} {osl : Array (Option Value)} {kV doc pm cdv ct : Value}
    (a : PySem.W.findIn K (.ref C) m = some (some (.ref f))) (i : PySem.W.isFn K (.ref f) = true) (l : K.lookup f = some ⟨oc, od, .func (PySem.W.fnOf m qual (defArgs st) (defBody st) (defScope st) .none kV doc pm an cdv ct), osl⟩)
    (c : PySem.W.codeIn K cdv qual = true) (k : PySem.W.keepIn K (.ref f) = true)
    (hb : ∀ (kV doc pm : Value) (an : Option Addr) (cdv ct : Value) (us : List Value), us.length = ps.length → bindArgs (PySem.W.fnOf m qual (defArgs st) (defBody st) (defScope st) .none kV doc pm an cdv ct) ⟨us, []⟩ = pure (ps.zip us)) : SrcM K C m qual st ps :=
  ⟨f, _, PySem_Fun_a (fun_mk l c k), ⟨a, i, k⟩, (fun_mk (st := st) l c k).binds hb⟩
theorem srcI_mk {K : PySem.W.Frag} {qual : Str} {st : Stmt} {f : Addr} {oc : Value} {od an : Option Addr} {osl : Array (Option Value)} {kV doc pm cdv ct : Value}
    (mk : PySem.W.makesIn K C = true) (kc : PySem.W.keepIn K (.ref C) = true)
    (a : PySem.W.findIn K (.ref C) "__init__" = some (some (.ref f))) (i : PySem.W.isFn K (.ref f) = true) (l : K.lookup f = some ⟨oc, od, .func (PySem.W.fnOf "__init__" qual (defArgs st) (defBody st) (defScope st) .none kV doc pm an cdv ct), osl⟩)
    (c : PySem.W.codeIn K cdv qual = true) (k : PySem.W.keepIn K (.ref f) = true)
    (hb : ∀ (kV doc pm : Value) (an : Option Addr) (cdv ct : Value) (us : List Value), us.length = ps.length → bindArgs (PySem.W.fnOf "__init__" qual (defArgs st) (defBody st) (defScope st) .none kV doc pm an cdv ct) ⟨us, []⟩ = pure (ps.zip us)) : SrcI K C qual st ps :=
  ⟨f, _, PySem_Fun_a (fun_mk l c k), ⟨mk, a, i, kc⟩, (fun_mk (st := st) l c k).binds hb⟩
end
end L2
set_option Elab.async false
set_option linter.all false
set_option maxRecDepth 100000
set_option maxHeartbeats 4000000
namespace L2
open PySem PySem.Spec PyProof.Rows PySem.HErr
/-- an error of a plan -/
inductive PErr where
  | tooMany (kind : Str) (limit : Int)
  | badWord (w : Str)
  | double (n : Str)
  | badNumber (n : Int)
  | empty (n : Str)
  | unknown (n : Str)
def nameErr : Bool × Str → PErr
  | (true, n) => .unknown n
  | (false, n) => .double n
def placesDue : List Str → List (Str × Int) → Option PErr
  | _, [] => none
  | seen, (w, n) :: r => if wd w.cps.toList = true then (if w ∈ seen then some (.double w) else if 0 ≤ n ∧ n ≤ 99 then placesDue (seen ++ [w]) r else some (.badNumber n)) else some (.badWord w)
abbrev SRow := Str × List Str × List Str
def stepDue (places seen : List Str) (s : SRow) : Option PErr :=
  if wd s.1.cps.toList = true then (if s.1 ∈ seen then some (.double s.1) else if s.2.1 = [] then some (.empty s.1) else
    match chk places [] s.2.1 with
    | some x => some (nameErr x)
    | none => (chk places [] s.2.2).map nameErr) else some (.badWord s.1)
def stepsDue (places : List Str) : List Str → List SRow → Option PErr
  | _, [] => none
  | seen, s :: r => match stepDue places seen s with
    | some e => some e
    | none => stepsDue places (seen ++ [s.1]) r
def planDue (prs : List (Str × Int)) (srs : List SRow) : Option PErr :=
  if 12 < prs.length then some (.tooMany "places" 12) else if 16 < srs.length then some (.tooMany "steps" 16) else
    match placesDue [] prs with
    | some e => some e
    | none => stepsDue (prs.map (·.1)) [] srs
theorem placesDue_cons (seen : List Str) (w : Str) (n : Int) (r : List (Str × Int)) : placesDue seen ((w, n) :: r) = if wd w.cps.toList = true then (if w ∈ seen then some (.double w) else if 0 ≤ n ∧ n ≤ 99 then placesDue (seen ++ [w]) r else some (.badNumber n)) else some (.badWord w) := rfl
theorem stepsDue_cons (places seen : List Str) (s : SRow) (r : List SRow) : stepsDue places seen (s :: r) = match stepDue places seen s with
    | some e => some e
    | none => stepsDue places (seen ++ [s.1]) r := rfl
/-- names in the order of the places -/
def inOrd (places ns : List Str) : List Str := places.filter fun p => decide (p ∈ ns)
/-- a plan -/
structure PlanD where
  places : List Str
  begin : List Int
  steps : List SRow
def planOf (prs : List (Str × Int)) (srs : List SRow) : PlanD := ⟨prs.map (·.1), prs.map (·.2), srs.map fun s => (s.1, inOrd (prs.map (·.1)) s.2.1, inOrd (prs.map (·.1)) s.2.2)⟩
def PlanD.names (d : PlanD) : List Str := d.steps.map (·.1)
/-- a dict from words to tuples of words -/
def TabAt (H : Hp) (kvs : List (Key × V)) (rows : List (Str × List Str)) : Prop := Paired (fun (kv : Key × V) r => kv.1 = Sum.inr r.1 ∧ ∃ t, kv.2 = .ref t ∧ H t = some (.tup (r.2.map V.str))) kvs rows
/-- a tuple whose place is known to be bare -/
def TupK (F : Hp) (a : Addr) (vs : List V) : Prop := ∃ o, F a = some (.frz o (.tup vs)) ∧ o.cls = .type "tuple" ∧ o.dict = none
theorem TupK.mono {F F' : Hp} {a : Addr} {vs : List V} (e : Same F F') (h : TupK F a vs) : TupK F' a vs := let ⟨o, h, q⟩ := h; ⟨o, e _ _ h, q⟩
def TupX (n : Bool) (F : Hp) (a : Addr) (vs : List V) : Prop := (n = true ∧ F a = some (.tup vs)) ∨ (n = false ∧ TupK F a vs)
theorem TupX.mono {n : Bool} {F F' : Hp} {a : Addr} {vs : List V} (e : Same F F') (h : TupX n F a vs) : TupX n F' a vs := h.imp (fun ⟨h0, h⟩ => ⟨h0, e _ _ h⟩) fun ⟨h0, h⟩ => ⟨h0, h.mono e⟩
def TupB (n : Bool) (F : Hp) (a : Addr) (vs : List V) : Prop := F a = some (.tup vs) ∨ (n = false ∧ TupK F a vs)
theorem TupB.mono {n : Bool} {F F' : Hp} {a : Addr} {vs : List V} (e : Same F F') (h : TupB n F a vs) : TupB n F' a vs := h.imp (fun h => e _ _ h) fun ⟨h0, o, h, q⟩ => ⟨h0, o, e _ _ h, q⟩
/-- the plan d stands at x -/
structure PlanAt (H : Hp) (C x : Addr) (d : PlanD) : Prop where
  ex : ∃ (dx tp tb td tg ts : Addr) (kt kg : List (Key × V)), H x = some (.ins C dx [("places", .ref tp), ("begin", .ref tb), ("taken", .ref td), ("given", .ref tg), ("steps", .ref ts)]) ∧
    TupX d.places.isEmpty H tp (d.places.map V.str) ∧ H tb = some (.tup (d.begin.map V.int)) ∧ H td = some (.dK kt) ∧ H tg = some (.dK kg) ∧ TupB d.names.isEmpty H ts (d.names.map V.str) ∧
    TabAt H kt (d.steps.map fun s => (s.1, s.2.1)) ∧ TabAt H kg (d.steps.map fun s => (s.1, s.2.2))
theorem Paired.imp2 {α β : Type} {R S : α → β → Prop} (h : ∀ a b, R a b → S a b) : ∀ {l : List α} {m : List β}, Paired R l m → Paired S l m
  | _, _, .nil => .nil
  | _, _, .cons x y => .cons (h _ _ x) (Paired.imp2 h y)
theorem TabAt.keep {H H' : Hp} {kvs : List (Key × V)} {rows : List (Str × List Str)} (h : TabAt H kvs rows) (e : ∀ t l, H t = some (.tup l) → H' t = some (.tup l)) : TabAt H' kvs rows :=
  Paired.imp2 (fun _ _ ⟨h1, t, h2, h3⟩ => ⟨h1, t, h2, e t _ h3⟩) h
theorem PlanAt.keep {H H' : Hp} {C x : Addr} {d : PlanD} (h : PlanAt H C x d) (e : Same H H') : PlanAt H' C x d := by
  obtain ⟨dx, tp, tb, td, tg, ts, kt, kg, h1, h2, h3, h4, h5, h6, h7, h8⟩ := h.ex
  exact ⟨dx, tp, tb, td, tg, ts, kt, kg, e _ _ h1, h2.mono e, e _ _ h3, e _ _ h4, e _ _ h5, h6.mono e, h7.keep fun _ _ => e _ _, h8.keep fun _ _ => e _ _⟩
/-- rows of places, rows of steps, in the heap -/
def PRows (H : Hp) (a : Addr) (prs : List (Str × Int)) : Prop := ∃ ts : List Addr, H a = some (.lst (ts.map V.ref)) ∧ Paired (fun t (r : Str × Int) => H t = some (.tup [.str r.1, .int r.2])) ts prs
/-- a row of a step at t, its lists other than the one at a -/
def SRowIn (H : Hp) (a t : Addr) (r : SRow) : Prop := ∃ b c, H t = some (.tup [.str r.1, .ref b, .ref c]) ∧ H b = some (.lst (r.2.1.map V.str)) ∧ H c = some (.lst (r.2.2.map V.str)) ∧ b ≠ a ∧ c ≠ a
def SRows (H : Hp) (a : Addr) (srs : List SRow) : Prop := ∃ ts : List Addr, H a = some (.lst (ts.map V.ref)) ∧ Paired (SRowIn H a) ts srs
theorem PRows.keep {H H' : Hp} {a : Addr} {prs : List (Str × Int)} (h : PRows H a prs) (e : Same H H') : PRows H' a prs := by
  obtain ⟨ts, h1, h2⟩ := h
  exact ⟨ts, e _ _ h1, Paired.imp2 (fun _ _ h => e _ _ h) h2⟩
theorem SRows.keep {H H' : Hp} {a : Addr} {srs : List SRow} (h : SRows H a srs) (e : Same H H') : SRows H' a srs := by
  obtain ⟨ts, h1, h2⟩ := h
  exact ⟨ts, e _ _ h1, Paired.imp2 (fun _ _ ⟨b, c, x, y, z, u⟩ => ⟨b, c, e _ _ x, e _ _ y, e _ _ z, u⟩) h2⟩
theorem Paired.get {α β : Type} {R : α → β → Prop} : ∀ {l : List α} {m : List β} {i : Nat} {a : α}, Paired R l m → l[i]? = some a → ∃ b, m[i]? = some b ∧ R a b
  | _, _, _, _, .nil, h => by simp at h
  | _, _, 0, _, .cons x _, h => by cases h; exact ⟨_, rfl, x⟩
  | _, _, i + 1, _, .cons _ y, h => Paired.get (i := i) y h
theorem Paired.len {α β : Type} {R : α → β → Prop} : ∀ {l : List α} {m : List β}, Paired R l m → l.length = m.length
  | _, _, .nil => rfl
  | _, _, .cons _ y => by rw [List.length_cons, List.length_cons, Paired.len y]
theorem Paired.snoc {α β : Type} {R : α → β → Prop} {a : α} {b : β} (h : R a b) : ∀ {l : List α} {m : List β}, Paired R l m → Paired R (l ++ [a]) (m ++ [b])
  | _, _, .nil => .cons h .nil
  | _, _, .cons x y => .cons x (Paired.snoc h y)
/-- the classes of the errors of a plan -/
structure ECs where
  tooMany : Addr
  badWord : Addr
  double : Addr
  badNumber : Addr
  empty : Addr
  unknown : Addr
def PErr.cls (cs : ECs) : PErr → Addr
  | .tooMany _ _ => cs.tooMany
  | .badWord _ => cs.badWord
  | .double _ => cs.double
  | .badNumber _ => cs.badNumber
  | .empty _ => cs.empty
  | .unknown _ => cs.unknown
def PErr.fields : PErr → List (Str × V)
  | .tooMany k l => [("limit", .int l), ("kind", .str k)]
  | .badWord w => [("word", .str w)]
  | .double n => [("name", .str n)]
  | .badNumber n => [("number", .int n)]
  | .empty n => [("name", .str n)]
  | .unknown n => [("name", .str n)]
/-- the same, but the object at x may have changed -/
def RaisX (cs : ECs) (E : XK) (x : Addr) (H : Hp) (e : PErr) : Prop := ∀ H' d, SameB x H H' → H d = none → H' d = some (.xd e.fields) → E (.ref (e.cls cs)) (some d) H'
theorem RaisX.go {cs : ECs} {E : XK} {x d : Addr} {H H' : Hp} {e : PErr} (h : RaisX cs E x H e) (sm : SameB x H H') (n : H' d = none) (hx : ∃ o, H' x = some o) : E (.ref (e.cls cs)) (some d) (upd H' d (.xd e.fields)) := by
  have hd : d ≠ x := fun q => by
    obtain ⟨o, ho⟩ := hx
    rw [q, ho] at n
    cases n
  exact h _ d (fun a o ha e => by rw [upd_ne (ne_of_none (sm a o ha e) n)]; exact sm a o ha e) (sm.free hd n) upd_same
theorem tup_ne {b l : Addr} {H : Hp} {a : Addr} {xs : List V} (hb : Box H b l) (h : H a = some (.tup xs)) : a ≠ b := fun q => by
  obtain ⟨ns, i, c, r, hb, _⟩ := hb.ex
  rw [q, hb] at h
  cases h
end L2
set_option Elab.async false
set_option linter.all false
set_option maxRecDepth 100000
set_option maxHeartbeats 4000000
namespace L2
open PySem PySem.Spec PyProof.Rows PySem.HErr
theorem Same.mut {p : Addr} {H H' : Hp} {o : HO} (h : Same H H') (n : H p = none) : Same H (upd H' p o) := fun a u e => by
  rw [upd_ne (ne_of_none e n)]
  exact h a u e
theorem Bx.tup {b l : Addr} {H H' : Hp} {a : Addr} {xs : List V} (x : Bx b l H H') (h : H a = some (.tup xs)) : H' a = some (.tup xs) := x.at h (tup_ne x.b0 h)
theorem Paired.take {α β : Type} {R : α → β → Prop} : ∀ {l : List α} {m : List β} (i : Nat), Paired R l m → Paired R (l.take i) (m.take i)
  | _, _, 0, _ => .nil
  | _, _, _ + 1, .nil => .nil
  | _, _, i + 1, .cons x y => .cons x (Paired.take i y)
theorem Paired.drop {α β : Type} {R : α → β → Prop} : ∀ {l : List α} {m : List β} (i : Nat), Paired R l m → Paired R (l.drop i) (m.drop i)
  | _, _, 0, h => h
  | _, _, _ + 1, .nil => .nil
  | _, _, i + 1, .cons _ y => Paired.drop i y
theorem Paired.app {α β : Type} {R : α → β → Prop} : ∀ {l : List α} {m : List β} {l' : List α} {m' : List β}, Paired R l m → Paired R l' m' → Paired R (l ++ l') (m ++ m')
  | _, _, _, _, .nil, h => h
  | _, _, _, _, .cons x y, h => .cons x (Paired.app y h)
theorem Paired.get' {α β : Type} {R : α → β → Prop} : ∀ {l : List α} {m : List β} {i : Nat} {b : β}, Paired R l m → m[i]? = some b → ∃ a, l[i]? = some a ∧ R a b
  | _, _, _, _, .nil, h => by simp at h
  | _, _, 0, _, .cons x _, h => by cases h; exact ⟨_, rfl, x⟩
  | _, _, i + 1, _, .cons _ y, h => Paired.get' (i := i) y h
theorem drop_at {α : Type} {l : List α} {i : Nat} {n : α} (h : l[i]? = some n) : l.drop i = n :: l.drop (i + 1) := List.drop_eq_getElem?_toList_append.trans (by rw [h]; rfl)
theorem SRowIn.keep {H H' : Hp} {a t : Addr} {r : SRow} (h : SRowIn H a t r) (e : Same H H') : SRowIn H' a t r := by
  obtain ⟨b, c, x, y, z, u⟩ := h
  exact ⟨b, c, e _ _ x, e _ _ y, e _ _ z, u⟩
theorem Paired.same {H H' : Hp} {ts : List Addr} {prs : List (Str × Int)} (h : Paired (fun t (r : Str × Int) => H t = some (.tup [.str r.1, .int r.2])) ts prs) (e : Same H H') : Paired (fun t (r : Str × Int) => H' t = some (.tup [.str r.1, .int r.2])) ts prs := Paired.imp2 (fun _ _ h => e _ _ h) h
/-- good rows: a plan of them is built -/
structure GoodRows (prs : List (Str × Int)) (srs : List SRow) : Prop where
  pw : ∀ r ∈ prs, Wd r.1 ∧ 0 ≤ r.2 ∧ r.2 ≤ 2
  pn : (prs.map (·.1)).Nodup
  sw : ∀ r ∈ srs, Wd r.1 ∧ r.2.1 ≠ [] ∧ r.2.1.Nodup ∧ (∀ y ∈ r.2.1, y ∈ prs.map (·.1)) ∧ r.2.2.Nodup ∧ (∀ y ∈ r.2.2, y ∈ prs.map (·.1))
  sn : (srs.map (·.1)).Nodup
  p1 : 1 ≤ prs.length
  p7 : prs.length ≤ 7
  s1 : 1 ≤ srs.length
  s13 : srs.length ≤ 13
theorem nodup_snoc {α : Type} {l : List α} {a : α} (h : l.Nodup) (n : a ∉ l) : (l ++ [a]).Nodup := by
  rw [List.nodup_append]
  exact ⟨h, by simp, fun x hx y hy e => by rw [List.mem_singleton.mp hy] at e; rw [e] at hx; exact n hx⟩
theorem placesDue_none : ∀ {prs : List (Str × Int)} {seen : List Str}, (∀ r ∈ prs, Wd r.1 ∧ 0 ≤ r.2 ∧ r.2 ≤ 99) → (seen ++ prs.map (·.1)).Nodup → placesDue seen prs = none
  | [], _, _, _ => rfl
  | (w, n) :: r, seen, h, hn => by
    obtain ⟨h1, h2⟩ := h _ (List.mem_cons_self ..)
    have hn2 : ((seen ++ [w]) ++ r.map (·.1)).Nodup := by
      rw [List.append_assoc]
      exact hn
    have hw : w ∉ seen := fun q => by
      rw [List.nodup_append] at hn
      exact hn.2.2 w q w (List.mem_cons_self ..) rfl
    have h1 : wd w.cps.toList = true := h1
    have h2 : 0 ≤ n ∧ n ≤ 99 := h2
    rw [placesDue_cons, if_pos h1, if_neg hw, if_pos h2]
    exact placesDue_none (fun r hr => h r (List.mem_cons_of_mem _ hr)) hn2
theorem stepsDue_none {places : List Str} : ∀ {srs : List SRow} {seen : List Str}, (∀ r ∈ srs, Wd r.1 ∧ r.2.1 ≠ [] ∧ r.2.1.Nodup ∧ (∀ y ∈ r.2.1, y ∈ places) ∧ r.2.2.Nodup ∧ (∀ y ∈ r.2.2, y ∈ places)) → (seen ++ srs.map (·.1)).Nodup → stepsDue places seen srs = none
  | [], _, _, _ => rfl
  | s :: r, seen, h, hn => by
    obtain ⟨h1, h2, h3, h4, h5, h6⟩ := h _ (List.mem_cons_self ..)
    have hn2 : ((seen ++ [s.1]) ++ r.map (·.1)).Nodup := by
      rw [List.append_assoc]
      exact hn
    have hw : s.1 ∉ seen := fun q => by
      rw [List.nodup_append] at hn
      exact hn.2.2 s.1 q s.1 (List.mem_cons_self ..) rfl
    have e1 : chk places [] s.2.1 = none := chk_none.mpr ⟨h3, fun w hw => ⟨h4 w hw, by simp⟩⟩
    have e2 : chk places [] s.2.2 = none := chk_none.mpr ⟨h5, fun w hw => ⟨h6 w hw, by simp⟩⟩
    have e : stepDue places seen s = none := by
      unfold stepDue
      have h1 : wd s.1.cps.toList = true := h1
      rw [if_pos h1, if_neg hw, if_neg h2, e1, e2]
      rfl
    rw [stepsDue_cons, e]
    exact stepsDue_none (fun r hr => h r (List.mem_cons_of_mem _ hr)) hn2
theorem planDue_none {prs : List (Str × Int)} {srs : List SRow} (hp : ∀ r ∈ prs, Wd r.1 ∧ 0 ≤ r.2 ∧ r.2 ≤ 99) (hn : (prs.map (·.1)).Nodup)
    (hs : ∀ r ∈ srs, Wd r.1 ∧ r.2.1 ≠ [] ∧ r.2.1.Nodup ∧ (∀ y ∈ r.2.1, y ∈ prs.map (·.1)) ∧ r.2.2.Nodup ∧ (∀ y ∈ r.2.2, y ∈ prs.map (·.1))) (hm : (srs.map (·.1)).Nodup) (l1 : prs.length ≤ 12) (l2 : srs.length ≤ 16) : planDue prs srs = none := by
  unfold planDue
  rw [if_neg (by omega), if_neg (by omega), placesDue_none hp (by simpa using hn)]
  exact stepsDue_none hs (by simpa using hm)
theorem GoodRows.due {prs : List (Str × Int)} {srs : List SRow} (h : GoodRows prs srs) : planDue prs srs = none :=
  planDue_none (fun r hr => by have := h.pw r hr; exact ⟨this.1, this.2.1, by omega⟩) h.pn h.sw h.sn (by have := h.p7; omega) (by have := h.s13; omega)
end L2
set_option Elab.async false
set_option linter.all false
set_option maxRecDepth 100000
set_option maxHeartbeats 4000000
namespace L2
open PySem PySem.Spec PyProof.Rows PySem.HErr
end L2
set_option Elab.async false
set_option linter.all false
set_option maxRecDepth 100000
set_option maxHeartbeats 4000000
namespace L2
open PySem PySem.Spec PyProof.Rows PySem.HErr
/-- what a value is, in the frozen heap -/
structure Vp where
  p : Hp → V → Prop
  mono : ∀ {F F' : Hp} {v : V}, Same F F' → p F v → p F' v
/-- how a thing of Lean stands for a value -/
structure Rep (α : Type) where
  p : Hp → V → α → Prop
  mono : ∀ {F F' : Hp} {v : V} {x : α}, Same F F' → p F v x → p F' v x
def iz {α : Type} (r : Rep α) (x : α) : Vp := ⟨fun F v => r.p F v x, fun e h => r.mono e h⟩
def zAt (a : Addr) : Vp := ⟨fun _ v => v = .ref a, fun _ h => h⟩
def zNon : Vp := ⟨fun _ v => v = .non, fun _ h => h⟩
def zI : Rep Int := ⟨fun _ v x => v = .int x, fun _ h => h⟩
def zB : Rep Bool := ⟨fun _ v x => v = .bl x, fun _ h => h⟩
def zS : Rep Str := ⟨fun _ v x => v = .str x ∧ Asc x, fun _ h => h⟩
abbrev PVs {α : Type} (r : Rep α) (F : Hp) (vs : List V) (xs : List α) : Prop := Paired (fun v x => r.p F v x) vs xs
def zL {α : Type} (r : Rep α) : Rep (List α) := ⟨fun F v xs => ∃ a vs, v = .ref a ∧ F a = some (.lst vs) ∧ PVs r F vs xs, fun e ⟨a, vs, h1, h2, h3⟩ => ⟨a, vs, h1, e _ _ h2, Paired.imp2 (fun _ _ h => r.mono e h) h3⟩⟩
def isSD : PyData → Bool
  | .str _ => true
  | _ => false
def isSDs (ds : List PyData) : Bool := !ds.isEmpty && ds.all isSD
/-- which tuples stand at a place that holds nothing but the tuple (such may be keys of dicts); the place of another one may be known to be bare -/
class TNar (α : Type) where
  nar : List α → Bool
/-- all of them do -/
class TAll (α : Type) [TNar α] : Prop where
  all : ∀ xs : List α, TNar.nar xs = true
instance : TNar Int := ⟨fun _ => true⟩
instance : TAll Int := ⟨fun _ => rfl⟩
instance : TNar Str := ⟨fun xs => xs.isEmpty⟩
instance : TNar PyData := ⟨fun ds => !isSDs ds⟩
instance : TNar Bool := ⟨fun _ => true⟩
instance : TAll Bool := ⟨fun _ => rfl⟩
instance : TNar Unit := ⟨fun _ => true⟩
instance : TAll Unit := ⟨fun _ => rfl⟩
instance {α β : Type} : TNar (α × β) := ⟨fun _ => true⟩
instance {α β : Type} : TAll (α × β) := ⟨fun _ => rfl⟩
instance {α : Type} : TNar (List α) := ⟨fun _ => true⟩
instance {α : Type} : TAll (List α) := ⟨fun _ => rfl⟩
instance {α : Type} : TNar (Option α) := ⟨fun _ => true⟩
instance {α : Type} : TAll (Option α) := ⟨fun _ => rfl⟩
instance {α β : Type} : TNar (α ⊕ β) := ⟨fun _ => true⟩
instance {α β : Type} : TAll (α ⊕ β) := ⟨fun _ => rfl⟩
theorem TupX.tb {n : Bool} {F : Hp} {a : Addr} {vs : List V} (h : TupX n F a vs) : TupB n F a vs := h.imp (fun h => h.2) id
theorem TupB.rd {n : Bool} {F : Hp} {a : Addr} {vs : List V} (h : TupB n F a vs) : Rd F a (.tup vs) := h.elim .inl fun ⟨_, o, h, _⟩ => .inr ⟨o, h⟩
theorem TupB.nar {n : Bool} {F : Hp} {a : Addr} {vs : List V} (h : TupB n F a vs) (e : n = true) : F a = some (.tup vs) := h.elim id fun ⟨h0, _⟩ => by rw [e] at h0; cases h0
theorem TupB.sq {n : Bool} {K : PySem.W.Frag} {F H : Hp} {a : Addr} {vs : List V} (h : TupB n F a vs) (e : Same F H) : SqT K H a vs := .inl (h.mono e).rd
def zT {α : Type} [k : TNar α] (r : Rep α) : Rep (List α) := ⟨fun F v xs => ∃ a vs, v = .ref a ∧ TupB (k.nar xs) F a vs ∧ PVs r F vs xs, fun e ⟨a, vs, h1, h2, h3⟩ => ⟨a, vs, h1, h2.mono e, Paired.imp2 (fun _ _ h => r.mono e h) h3⟩⟩
/-- a tuple at a place that holds nothing but the tuple; a tuple of words at a bare place -/
def zN {α : Type} (r : Rep α) : Rep (List α) := ⟨fun F v xs => ∃ a vs, v = .ref a ∧ F a = some (.tup vs) ∧ PVs r F vs xs, fun e ⟨a, vs, h1, h2, h3⟩ => ⟨a, vs, h1, e _ _ h2, Paired.imp2 (fun _ _ h => r.mono e h) h3⟩⟩
def zK : Rep (List Str) := ⟨fun F v xs => ∃ a vs, v = .ref a ∧ TupX xs.isEmpty F a vs ∧ PVs zS F vs xs, fun e ⟨a, vs, h1, h2, h3⟩ => ⟨a, vs, h1, h2.mono e, Paired.imp2 (fun _ _ h => zS.mono e h) h3⟩⟩
def z2 {α β : Type} (r : Rep α) (s : Rep β) : Rep (α × β) := ⟨fun F v x => ∃ a u w, v = .ref a ∧ F a = some (.tup [u, w]) ∧ r.p F u x.1 ∧ s.p F w x.2, fun e ⟨a, u, w, h1, h2, h3, h4⟩ => ⟨a, u, w, h1, e _ _ h2, r.mono e h3, s.mono e h4⟩⟩
def z3 {α β γ : Type} (r : Rep α) (s : Rep β) (t : Rep γ) : Rep (α × β × γ) := ⟨fun F v x => ∃ a u w z, v = .ref a ∧ F a = some (.tup [u, w, z]) ∧ r.p F u x.1 ∧ s.p F w x.2.1 ∧ t.p F z x.2.2, fun e ⟨a, u, w, z, h1, h2, h3, h4, h5⟩ => ⟨a, u, w, z, h1, e _ _ h2, r.mono e h3, s.mono e h4, t.mono e h5⟩⟩
structure Cel where
  a : Addr
  own : Bool
  φ : Hp → HO → Prop
  mono : ∀ {F F' : Hp} {o : HO}, Same F F' → φ F o → φ F' o
  nt : ∀ {F : Hp} {o : HO} {vs : List V}, φ F o → o = .tup vs → False
/-- what F' may know beyond F: what is new, and tuples -/
def Nwr (F H : Hp) (a : Addr) (o : HO) : Prop := (∃ o', F a = some o') ∨ H a = none ∨ ∃ vs, o = .tup vs
def cL {α : Type} (a : Addr) (r : Rep α) (xs : List α) : Cel := ⟨a, true, fun F o => ∃ vs, o = .lst vs ∧ PVs r F vs xs, fun e ⟨vs, h1, h2⟩ => ⟨vs, h1, Paired.imp2 (fun _ _ h => r.mono e h) h2⟩, fun h e => by subst e; simp at h⟩
/-- the law's box at b, its script at l -/
def cBox (own : Bool) (b l : Addr) : Cel := ⟨b, own, fun F o => ∃ (ns : List Int) (i c r : Int), o = .lst [.int i, .int c, .int r, .ref l] ∧ F l = some (.lst (ns.map V.int)) ∧ 0 ≤ i, fun e ⟨ns, i, c, r, h1, h2, h3⟩ => ⟨ns, i, c, r, h1, e _ _ h2, h3⟩, fun h e => by subst e; simp at h⟩
/-- what stood at the beginning: F0 frozen, H0 all, B lent -/
structure Fr where
  F0 : Hp
  H0 : Hp
  B : List Addr
structure OkF (fr : Fr) (Θ : List Cel) (F H : Hp) : Prop where
  fh : Same F H
  f0 : Same fr.F0 F
  nw : ∀ a o, F a = some o → Nwr fr.F0 fr.H0 a o
  h0 : ∀ a o, a ∉ fr.B → fr.H0 a = some o → H a = some o
  al : ∀ a o, fr.H0 a = some o → ∃ o', H a = some o'
  nd : (Θ.map Cel.a).Nodup
  ce : ∀ c ∈ Θ, F c.a = none ∧ (∃ o, H c.a = some o ∧ c.φ F o) ∧ (if c.own = true then fr.H0 c.a = none else c.a ∈ fr.B)
section
variable {fr : Fr} {Θ : List Cel} {F F' H H' : Hp}
theorem OkF.h0n (k : OkF fr Θ F H) {p : Addr} (n : H p = none) : fr.H0 p = none := by
  cases q : fr.H0 p with
  | none => rfl
  | some o =>
    obtain ⟨o', h⟩ := k.al p o q
    rw [n] at h
    cases h
theorem OkF.new {p : Addr} {o : HO} (k : OkF fr Θ F H) (n : H p = none) : OkF fr Θ (upd F p o) (upd H p o) := by
  have nF : F p = none := k.fh.free n
  refine ⟨fun a u h => ?_, k.f0.trans (same_upd nF), fun a u h => ?_, fun a u hB h => ?_, fun a u h => ?_, k.nd, fun c hc => ?_⟩
  · by_cases e : a = p
    · subst e
      rw [upd_same] at h ⊢
      exact h
    · rw [upd_ne e] at h ⊢
      exact k.fh a u h
  · by_cases e : a = p
    · subst e
      exact .inr (.inl (k.h0n n))
    · rw [upd_ne e] at h
      exact k.nw a u h
  · have := k.h0 a u hB h
    rw [upd_ne (ne_of_none this n)]
    exact this
  · obtain ⟨o', h'⟩ := k.al a u h
    exact ⟨o', by rw [upd_ne (ne_of_none h' n)]; exact h'⟩
  · obtain ⟨h1, ⟨u, h2, h3⟩, h4⟩ := k.ce c hc
    have ne := ne_of_none h2 n
    exact ⟨by rw [upd_ne ne]; exact h1, ⟨u, by rw [upd_ne ne]; exact h2, c.mono (same_upd nF) h3⟩, h4⟩
theorem OkF.sameF {p : Addr} {o : HO} (k : OkF fr Θ F H) (n : H p = none) : Same F (upd F p o) := same_upd (k.fh.free n)
theorem OkF.mkOwn {c : Cel} {o : HO} (k : OkF fr Θ F H) (n : H c.a = none) (ho : c.own = true) (h : c.φ F o) : OkF fr (c :: Θ) F (upd H c.a o) := by
  refine ⟨k.fh.trans (same_upd n), k.f0, k.nw, fun a u hB h => ?_, fun a u h => ?_, ?_, fun d hd => ?_⟩
  · have := k.h0 a u hB h
    rw [upd_ne (ne_of_none this n)]
    exact this
  · obtain ⟨o', h'⟩ := k.al a u h
    exact ⟨o', by rw [upd_ne (ne_of_none h' n)]; exact h'⟩
  · rw [List.map_cons, List.nodup_cons]
    refine ⟨fun hm => ?_, k.nd⟩
    obtain ⟨d, hd, e⟩ := List.mem_map.mp hm
    obtain ⟨_, ⟨u, h2, _⟩, _⟩ := k.ce d hd
    rw [e, n] at h2
    cases h2
  · rcases List.mem_cons.mp hd with rfl | hd
    · exact ⟨k.fh.free n, ⟨o, upd_same, h⟩, by rw [if_pos ho]; exact k.h0n n⟩
    · obtain ⟨h1, ⟨u, h2, h3⟩, h4⟩ := k.ce d hd
      exact ⟨h1, ⟨u, by rw [upd_ne (ne_of_none h2 n)]; exact h2, h3⟩, h4⟩
theorem nodup_at {l : List Cel} (h : (l.map Cel.a).Nodup) {i : Nat} {c d : Cel} (hi : l[i]? = some c) {j : Nat} (hj : l[j]? = some d) (e : d.a = c.a) : i = j := by
  have hi' : (l.map Cel.a)[i]? = some c.a := by rw [List.getElem?_map, hi]; rfl
  have hj' : (l.map Cel.a)[j]? = some c.a := by rw [List.getElem?_map, hj, ← e]; rfl
  exact (List.getElem?_inj (List.getElem?_eq_some_iff.mp hi').1 h).mp (hi'.trans hj'.symm)
/-- a cell's content changes -/
theorem OkF.mut {i : Nat} {c c' : Cel} {o : HO} (k : OkF fr Θ F H) (hi : Θ[i]? = some c) (ha : c'.a = c.a) (ho : c'.own = c.own) (h : c'.φ F o) : OkF fr (Θ.set i c') F (upd H c.a o) := by
  have hm := List.mem_of_getElem? hi
  obtain ⟨h1, ⟨u0, h2, h3⟩, h4⟩ := k.ce c hm
  refine ⟨fun a u h => ?_, k.f0, k.nw, fun a u hB h => ?_, fun a u h => ?_, ?_, fun d hd => ?_⟩
  · have ne : a ≠ c.a := fun e => by rw [e, h1] at h; cases h
    rw [upd_ne ne]
    exact k.fh a u h
  · have ne : a ≠ c.a := fun e => by
      cases q : c.own with
      | true =>
        rw [if_pos q] at h4
        rw [e, h4] at h
        cases h
      | false =>
        rw [if_neg (by rw [q]; exact Bool.false_ne_true)] at h4
        rw [e] at hB
        exact hB h4
    rw [upd_ne ne]
    exact k.h0 a u hB h
  · by_cases e : a = c.a
    · exact ⟨o, by rw [e]; exact upd_same⟩
    · rw [upd_ne e]
      exact k.al a u h
  · have : (Θ.set i c').map Cel.a = Θ.map Cel.a := by
      rw [List.map_set, ha]
      apply List.ext_getElem?
      intro j
      rw [List.getElem?_set]
      split
      · rename_i e
        subst e
        rw [List.getElem?_map, hi]
        have hlt : i < (Θ.map Cel.a).length := by
          rw [List.length_map]
          exact (List.getElem?_eq_some_iff.mp hi).1
        rw [if_pos hlt]
        rfl
      · rfl
    rw [this]
    exact k.nd
  · obtain ⟨j, hj⟩ := List.getElem?_of_mem hd
    rw [List.getElem?_set] at hj
    split at hj
    · rename_i e
      split at hj
      · cases hj
        rw [ha, ho]
        exact ⟨h1, ⟨o, upd_same, h⟩, h4⟩
      · cases hj
    · rename_i e
      have hd' := List.mem_of_getElem? hj
      obtain ⟨g1, ⟨u, g2, g3⟩, g4⟩ := k.ce d hd'
      have ne : d.a ≠ c.a := fun q => e (nodup_at k.nd hi hj q)
      exact ⟨g1, ⟨u, by rw [upd_ne ne]; exact g2, g3⟩, g4⟩
/-- a cell of one's own is frozen -/
theorem OkF.frz {i : Nat} {c : Cel} {o : HO} (k : OkF fr Θ F H) (hi : Θ[i]? = some c) (ho : c.own = true) (h : H c.a = some o) : OkF fr (Θ.eraseIdx i) (upd F c.a o) H := by
  have hm := List.mem_of_getElem? hi
  obtain ⟨h1, _, h4⟩ := k.ce c hm
  rw [if_pos ho] at h4
  have hlt := (List.getElem?_eq_some_iff.mp hi).1
  refine ⟨fun a u e => ?_, k.f0.trans (same_upd h1), fun a u e => ?_, k.h0, k.al, ?_, fun d hd => ?_⟩
  · by_cases q : a = c.a
    · rw [q, upd_same] at e
      rw [q, h, e]
    · rw [upd_ne q] at e
      exact k.fh a u e
  · by_cases q : a = c.a
    · rw [q]
      exact .inr (.inl h4)
    · rw [upd_ne q] at e
      exact k.nw a u e
  · exact (List.Sublist.map Cel.a (List.eraseIdx_sublist Θ i)).nodup k.nd
  · obtain ⟨j, hj⟩ := List.getElem?_of_mem hd
    rw [List.getElem?_eraseIdx] at hj
    have key : ∀ j', j' ≠ i → Θ[j']? = some d → (upd F c.a o) d.a = none ∧ (∃ u, H d.a = some u ∧ d.φ (upd F c.a o) u) ∧ (if d.own = true then fr.H0 d.a = none else d.a ∈ fr.B) := fun j' hne hj' => by
      obtain ⟨g1, ⟨u, g2, g3⟩, g4⟩ := k.ce d (List.mem_of_getElem? hj')
      have ne : d.a ≠ c.a := fun q => hne (nodup_at k.nd hi hj' q).symm
      exact ⟨by rw [upd_ne ne]; exact g1, ⟨u, g2, d.mono (same_upd h1) g3⟩, g4⟩
    split at hj
    · exact key j (by omega) hj
    · exact key (j + 1) (by omega) hj
theorem OkF.nwr {a : Addr} {o : HO} (k : OkF fr Θ F H) (ff : Same F F') (h : F' a = some o) (n : Nwr F H a o) : Nwr fr.F0 fr.H0 a o := by
  rcases n with ⟨o', h'⟩ | h' | h'
  · have e := ff a o' h'
    rw [h] at e
    cases e
    exact k.nw a o h'
  · exact .inr (.inl (k.h0n h'))
  · exact .inr (.inr h')
/-- after a call that lets all stand -/
theorem OkF.grow (k : OkF fr Θ F H) (hh : Same H H') (ff : Same F F') (fh : Same F' H') (nw : ∀ a o, F' a = some o → Nwr F H a o) : OkF fr Θ F' H' := by
  refine ⟨fh, k.f0.trans ff, fun a o h => ?_, fun a o hB h => hh _ _ (k.h0 a o hB h), fun a o h => ?_, k.nd, fun c hc => ?_⟩
  · exact k.nwr ff h (nw a o h)
  · obtain ⟨o', h'⟩ := k.al a o h
    exact ⟨o', hh _ _ h'⟩
  · obtain ⟨h1, ⟨u, h2, h3⟩, h4⟩ := k.ce c hc
    refine ⟨?_, ⟨u, hh _ _ h2, c.mono ff h3⟩, h4⟩
    cases q : F' c.a with
    | none => rfl
    | some o =>
      rcases nw _ _ q with ⟨o', h'⟩ | h' | ⟨vs, ht⟩
      · rw [h1] at h'
        cases h'
      · rw [h2] at h'
        cases h'
      · have e1 := fh _ _ q
        rw [hh _ _ h2] at e1
        exact (c.nt h3 ((Option.some.inj e1).trans ht)).elim
/-- at the start of a def: all that stands is frozen -/
theorem OkF.start (fh : Same F H) : OkF ⟨F, H, []⟩ [] F H := ⟨fh, Same.refl F, fun a o h => .inl ⟨o, h⟩, fun _ _ _ h => h, fun _ o h => ⟨o, h⟩, List.nodup_nil, fun c hc => by cases hc⟩
end
abbrev Gam := List (Option Vp)
def EnvF (Γ : Gam) (σ : L2.St) (F : Hp) : Prop := Paired (fun (e : Option Vp) (s : Option V) => ∀ p, e = some p → ∃ v, s = some v ∧ p.p F v) Γ σ
section
variable {Γ : Gam} {σ : L2.St} {F F' : Hp}
theorem EnvF.mono (h : EnvF Γ σ F) (e : Same F F') : EnvF Γ σ F' := Paired.imp2 (fun _ _ h p hp => by
  obtain ⟨v, h1, h2⟩ := h p hp
  exact ⟨v, h1, p.mono e h2⟩) h
theorem EnvF.get {i : Nat} {p : Vp} (h : EnvF Γ σ F) (hi : Γ[i]? = some (some p)) : ∃ v, σ[i]? = some (some v) ∧ p.p F v := by
  obtain ⟨s, h1, h2⟩ := Paired.get h hi
  obtain ⟨v, rfl, h3⟩ := h2 p rfl
  exact ⟨v, h1, h3⟩
theorem Paired.set {α β : Type} {R : α → β → Prop} {a : α} {b : β} (r : R a b) : ∀ {l : List α} {m : List β} (i : Nat), Paired R l m → Paired R (l.set i a) (m.set i b)
  | _, _, _, .nil => .nil
  | _, _, 0, .cons _ t => .cons r t
  | _, _, i + 1, .cons x t => .cons x (Paired.set r i t)
theorem EnvF.set {i : Nat} {p : Vp} {v : V} (h : EnvF Γ σ F) (hp : p.p F v) : EnvF (Γ.set i (some p)) (σ.set i (some v)) F :=
  Paired.set (fun q hq => by cases hq; exact ⟨v, rfl, hp⟩) i h
theorem EnvF.drop {i : Nat} {s : Option V} (h : EnvF Γ σ F) : EnvF (Γ.set i none) (σ.set i s) F := Paired.set (fun q hq => by cases hq) i h
theorem EnvF.len (h : EnvF Γ σ F) : Γ.length = σ.length := Paired.len h
end
/-- wherever the names hold Γ and the cells Θ, P holds -/
def Kn (fr : Fr) (Γ : Gam) (Θ : List Cel) (P : L2.St → Hp → Prop) : Prop := ∀ σ F H, OkF fr Θ F H → EnvF Γ σ F → P σ H
def Kq (fr : Fr) (F : Hp) (K : Vp → List Cel → Prop) (Q : VK) : Prop := ∀ p Θ', K p Θ' → ∀ v F' H', Same F F' → OkF fr Θ' F' H' → p.p F' v → Q v H'
def Kb (fr : Fr) (F : Hp) (K : Bool → List Cel → Prop) (Q : Bool → Hp → Prop) : Prop := ∀ b Θ', K b Θ' → ∀ F' H', Same F F' → OkF fr Θ' F' H' → Q b H'
def Ka (fr : Fr) (F : Hp) (K : List Vp → List Cel → Prop) (Q : List V → Hp → Prop) : Prop := ∀ ps Θ', K ps Θ' → ∀ vs F' H', Same F F' → OkF fr Θ' F' H' → Paired (fun (p : Vp) v => p.p F' v) ps vs → Q vs H'
def Ko (fr : Fr) (F : Hp) (K : Option Int → List Cel → Prop) (Q : Option Int → Hp → Prop) : Prop := ∀ b Θ', K b Θ' → ∀ F' H', Same F F' → OkF fr Θ' F' H' → Q b H'
def We (fr : Fr) (Γ : Gam) (Θ : List Cel) (t : TE) (K : Vp → List Cel → Prop) : Prop := ∀ σ F H, OkF fr Θ F H → EnvF Γ σ F → ∀ Q, Kq fr F K Q → t σ H Q
def Wt (fr : Fr) (Γ : Gam) (Θ : List Cel) (t : TT) (K : Bool → List Cel → Prop) : Prop := ∀ σ F H, OkF fr Θ F H → EnvF Γ σ F → ∀ Q, Kb fr F K Q → t σ H Q
def Wa (fr : Fr) (Γ : Gam) (Θ : List Cel) (t : TA) (K : List Vp → List Cel → Prop) : Prop := ∀ σ F H, OkF fr Θ F H → EnvF Γ σ F → ∀ Q, Ka fr F K Q → t σ H Q
def Wo (fr : Fr) (Γ : Gam) (Θ : List Cel) (t : TO) (K : Option Int → List Cel → Prop) : Prop := ∀ σ F H, OkF fr Θ F H → EnvF Γ σ F → ∀ Q, Ko fr F K Q → t σ H Q
/-- by values -/
def Ops (fr : Fr) (Θ : List Cel) (r : R2) (p q : Vp) (K : Vp → List Cel → Prop) : Prop := ∀ F H v w, OkF fr Θ F H → p.p F v → q.p F w → ∀ Q, Kq fr F K Q → r v w H Q
def Uns (fr : Fr) (Θ : List Cel) (r : V → Hp → VK → Prop) (p : Vp) (K : Vp → List Cel → Prop) : Prop := ∀ F H v, OkF fr Θ F H → p.p F v → ∀ Q, Kq fr F K Q → r v H Q
def Cbs (fr : Fr) (Θ : List Cel) (r : List V → Hp → VK → Prop) (ps : List Vp) (K : Vp → List Cel → Prop) : Prop := ∀ F H vs, OkF fr Θ F H → Paired (fun (p : Vp) v => p.p F v) ps vs → ∀ Q, Kq fr F K Q → r vs H Q
def Mts (fr : Fr) (Θ : List Cel) (r : V → List V → Hp → VK → Prop) (p : Vp) (ps : List Vp) (K : Vp → List Cel → Prop) : Prop := ∀ F H v vs, OkF fr Θ F H → p.p F v → Paired (fun (p : Vp) v => p.p F v) ps vs → ∀ Q, Kq fr F K Q → r v vs H Q
def Sls (fr : Fr) (Θ : List Cel) (r : V → Option Int → Option Int → Hp → VK → Prop) (p : Vp) (lo hi : Option Int) (K : Vp → List Cel → Prop) : Prop := ∀ F H v, OkF fr Θ F H → p.p F v → ∀ Q, Kq fr F K Q → r v lo hi H Q
/-- the value alone, and nothing else changes -/
abbrev Ev (fr : Fr) (Γ : Gam) (Θ : List Cel) (t : TE) (p : Vp) : Prop := We fr Γ Θ t fun q Θ' => q = p ∧ Θ' = Θ
abbrev Et (fr : Fr) (Γ : Gam) (Θ : List Cel) (t : TT) (b : Bool) : Prop := Wt fr Γ Θ t fun c Θ' => c = b ∧ Θ' = Θ
section
variable {fr : Fr} {Γ Γ' : Gam} {Θ : List Cel} {F F' H H' : Hp} {K : Vp → List Cel → Prop} {Q : VK}
theorem Kq.mono (h : Kq fr F K Q) (e : Same F F') : Kq fr F' K Q := fun p Θ' k v F2 H2 s2 => h p Θ' k v F2 H2 (e.trans s2)
theorem Kq.go {p : Vp} {v : V} (h : Kq fr F K Q) (k : K p Θ) (ok : OkF fr Θ F H) (hp : p.p F v) : Q v H := h p Θ k v F H (Same.refl F) ok hp
/-- a new object -/
theorem Kq.new {p : Vp} {a : Addr} {o : HO} (h : Kq fr F K Q) (k : K p Θ) (ok : OkF fr Θ F H) (n : H a = none) (hp : p.p (upd F a o) (.ref a)) : Q (.ref a) (upd H a o) := h p Θ k _ _ _ (ok.sameF n) (ok.new n) hp
theorem We.imp {t : TE} {K' : Vp → List Cel → Prop} (w : We fr Γ Θ t K) (h : ∀ p Θ', K p Θ' → K' p Θ') : We fr Γ Θ t K' := fun σ F H ok env Q q => w σ F H ok env Q fun p Θ' k => q p Θ' (h p Θ' k)
theorem we_var {i : Nat} {p : Vp} (h : Γ[i]? = some (some p)) (k : K p Θ) : We fr Γ Θ (tVar i) K := fun σ F H ok env Q q => by
  obtain ⟨v, h1, h2⟩ := env.get h
  exact ⟨v, h1, q.go k ok h2⟩
theorem we_c {v : V} {p : Vp} (hp : ∀ F, p.p F v) (k : K p Θ) : We fr Γ Θ (tC v) K := fun σ F H ok env Q q => q.go k ok (hp F)
theorem we_cI {n : Int} (k : K (iz zI n) Θ) : We fr Γ Θ (tC (.int n)) K := we_c (fun _ => rfl) k
theorem we_cS {z : Str} (h : Asc z) (k : K (iz zS z) Θ) : We fr Γ Θ (tC (.str z)) K := we_c (p := iz zS z) (fun _ => ⟨rfl, h⟩) k
theorem we_cB {b : Bool} (k : K (iz zB b) Θ) : We fr Γ Θ (tC (.bl b)) K := we_c (fun _ => rfl) k
theorem we_cN (k : K zNon Θ) : We fr Γ Θ (tC .non) K := we_c (fun _ => rfl) k
theorem we_op {r : R2} {ta tb : TE} (w : We fr Γ Θ ta fun p Θ1 => We fr Γ Θ1 tb fun q Θ2 => Ops fr Θ2 r p q K) : We fr Γ Θ (tOp r ta tb) K := fun σ F H ok env Q q =>
  w σ F H ok env _ fun p Θ1 k v F1 H1 s1 ok1 hp => k σ F1 H1 ok1 (env.mono s1) _ fun p2 Θ2 k2 v2 F2 H2 s2 ok2 hp2 => k2 F2 H2 v v2 ok2 (p.mono s2 hp) hp2 Q (q.mono (s1.trans s2))
theorem we_un {r : V → Hp → VK → Prop} {ta : TE} (w : We fr Γ Θ ta fun p Θ1 => Uns fr Θ1 r p K) : We fr Γ Θ (tUn r ta) K := fun σ F H ok env Q q =>
  w σ F H ok env _ fun p Θ1 k v F1 H1 s1 ok1 hp => k F1 H1 v ok1 hp Q (q.mono s1)
theorem wa_nil {K : List Vp → List Cel → Prop} (k : K [] Θ) : Wa fr Γ Θ tNil K := fun σ F H ok env Q q => q [] Θ k [] F H (Same.refl F) ok .nil
theorem wa_cons {K : List Vp → List Cel → Prop} {ta : TE} {tr : TA} (w : We fr Γ Θ ta fun p Θ1 => Wa fr Γ Θ1 tr fun ps Θ2 => K (p :: ps) Θ2) : Wa fr Γ Θ (tCons ta tr) K := fun σ F H ok env Q q =>
  w σ F H ok env _ fun p Θ1 k v F1 H1 s1 ok1 hp => k σ F1 H1 ok1 (env.mono s1) _ fun ps Θ2 k2 vs F2 H2 s2 ok2 hps => q (p :: ps) Θ2 k2 (v :: vs) F2 H2 (s1.trans s2) ok2 (.cons (p.mono s2 hp) hps)
theorem we_cb {r : List V → Hp → VK → Prop} {t : TA} (w : Wa fr Γ Θ t fun ps Θ1 => Cbs fr Θ1 r ps K) : We fr Γ Θ (tCB r t) K := fun σ F H ok env Q q =>
  w σ F H ok env _ fun ps Θ1 k vs F1 H1 s1 ok1 hps => k F1 H1 vs ok1 hps Q (q.mono s1)
theorem we_bm {Kf : PySem.W.Frag} {T : String} {r : V → List V → Hp → VK → Prop} {to : TE} {t : TA} (w : We fr Γ Θ to fun p Θ1 => (∀ F H v, OkF fr Θ1 F H → p.p F v → tyV Kf T v H) ∧ Wa fr Γ Θ1 t fun ps Θ2 => Mts fr Θ2 r p ps K) : We fr Γ Θ (tBM Kf T r to t) K := fun σ F H ok env Q q =>
  w σ F H ok env _ fun p Θ1 ⟨kt, k⟩ v F1 H1 s1 ok1 hp => ⟨kt F1 H1 v ok1 hp, k σ F1 H1 ok1 (env.mono s1) _ fun ps Θ2 k2 vs F2 H2 s2 ok2 hps => k2 F2 H2 v vs ok2 (p.mono s2 hp) hps Q (q.mono (s1.trans s2))⟩
theorem wo_none {K : Option Int → List Cel → Prop} (k : K none Θ) : Wo fr Γ Θ tNoPart K := fun σ F H ok env Q q => q none Θ k F H (Same.refl F) ok
theorem wo_some {K : Option Int → List Cel → Prop} {t : TE} (w : We fr Γ Θ t fun p Θ1 => ∃ n, p = iz zI n ∧ K (some n) Θ1) : Wo fr Γ Θ (tPart t) K := fun σ F H ok env Q q =>
  w σ F H ok env _ fun p Θ1 ⟨n, e, k⟩ v F1 H1 s1 ok1 hp => by
    subst e
    exact ⟨n, hp, q (some n) Θ1 k F1 H1 s1 ok1⟩
theorem we_sl {r : V → Option Int → Option Int → Hp → VK → Prop} {te : TE} {tl th : TO} (w : We fr Γ Θ te fun p Θ1 => Wo fr Γ Θ1 tl fun lo Θ2 => Wo fr Γ Θ2 th fun hi Θ3 => Sls fr Θ3 r p lo hi K) : We fr Γ Θ (tSl r te tl th) K := fun σ F H ok env Q q =>
  w σ F H ok env _ fun p Θ1 k v F1 H1 s1 ok1 hp => k σ F1 H1 ok1 (env.mono s1) _ fun lo Θ2 k2 F2 H2 s2 ok2 => k2 σ F2 H2 ok2 ((env.mono s1).mono s2) _ fun hi Θ3 k3 F3 H3 s3 ok3 =>
    k3 F3 H3 v ok3 (p.mono (s2.trans s3) hp) Q (q.mono ((s1.trans s2).trans s3))
theorem wt_test {K : Bool → List Cel → Prop} {t : TE} (w : We fr Γ Θ t fun p Θ1 => ∃ b, p = iz zB b ∧ K b Θ1) : Wt fr Γ Θ (tTest t) K := fun σ F H ok env Q q =>
  w σ F H ok env _ fun p Θ1 ⟨b, e, k⟩ v F1 H1 s1 ok1 hp => by
    subst e
    exact ⟨b, hp, q b Θ1 k F1 H1 s1 ok1⟩
theorem wt_b {K : Bool → List Cel → Prop} {t : TE} (w : We fr Γ Θ t fun p Θ1 => ∃ b, p = iz zB b ∧ K b Θ1) : Wt fr Γ Θ (tB t) K := wt_test (fr := fr) w
theorem wt_not {K : Bool → List Cel → Prop} {t : TT} (w : Wt fr Γ Θ t fun b Θ1 => K (!b) Θ1) : Wt fr Γ Θ (tNot t) K := fun σ F H ok env Q q =>
  w σ F H ok env _ fun b Θ1 k F1 H1 s1 ok1 => q (!b) Θ1 k F1 H1 s1 ok1
theorem wt_and {K : Bool → List Cel → Prop} {t u : TT} {b c : Bool} (w : Et fr Γ Θ t b) (x : b = true → Et fr Γ Θ u c) (k : K (b && c) Θ) : Wt fr Γ Θ (tAnd t u) K := fun σ F H ok env Q q =>
  w σ F H ok env _ fun b1 Θ1 ⟨e1, e2⟩ F1 H1 s1 ok1 => by
    subst e1 e2
    cases b1 with
    | true =>
      rw [if_pos rfl]
      refine x rfl σ F1 H1 ok1 (env.mono s1) _ fun c1 Θ2 ⟨e1, e2⟩ F2 H2 s2 ok2 => ?_
      subst e1 e2
      exact q c1 _ k F2 H2 (s1.trans s2) ok2
    | false =>
      rw [if_neg Bool.false_ne_true]
      exact q false _ k F1 H1 s1 ok1
theorem wt_or {K : Bool → List Cel → Prop} {t u : TT} {b c : Bool} (w : Et fr Γ Θ t b) (x : b = false → Et fr Γ Θ u c) (k : K (b || c) Θ) : Wt fr Γ Θ (tOr t u) K := fun σ F H ok env Q q =>
  w σ F H ok env _ fun b1 Θ1 ⟨e1, e2⟩ F1 H1 s1 ok1 => by
    subst e1 e2
    cases b1 with
    | false =>
      rw [if_neg Bool.false_ne_true]
      refine x rfl σ F1 H1 ok1 (env.mono s1) _ fun c1 Θ2 ⟨e1, e2⟩ F2 H2 s2 ok2 => ?_
      subst e1 e2
      exact q c1 _ k F2 H2 (s1.trans s2) ok2
    | true =>
      rw [if_pos rfl]
      exact q true _ k F1 H1 s1 ok1
theorem we_not {t : TE} (w : We fr Γ Θ t fun p Θ1 => ∃ b, p = iz zB b ∧ K (iz zB (!b)) Θ1) : We fr Γ Θ (tNotV t) K := fun σ F H ok env Q q =>
  w σ F H ok env _ fun p Θ1 ⟨b, e, k⟩ v F1 H1 s1 ok1 hp => by
    subst e
    exact ⟨b, hp, q _ Θ1 k _ F1 H1 s1 ok1 rfl⟩
/-- a if c else b, by ways -/
theorem we_if {c : TT} {ta tb : TE} (w : Wt fr Γ Θ c fun b Θ1 => (b = true → We fr Γ Θ1 ta K) ∧ (b = false → We fr Γ Θ1 tb K)) : We fr Γ Θ (tIf c ta tb) K := fun σ F H ok env Q q =>
  w σ F H ok env _ fun b Θ1 ⟨k1, k2⟩ F1 H1 s1 ok1 => by
    cases b with
    | true =>
      rw [if_pos rfl]
      exact k1 rfl σ F1 H1 ok1 (env.mono s1) Q (q.mono s1)
    | false =>
      rw [if_neg Bool.false_ne_true]
      exact k2 rfl σ F1 H1 ok1 (env.mono s1) Q (q.mono s1)
theorem kn_seq {t u : TS} {D : Ends} (h : Kn fr Γ Θ (t { D with nx := u D })) : Kn fr Γ Θ (tSeq t u D) := h
theorem kn_next {D : Ends} (h : Kn fr Γ Θ D.nx) : Kn fr Γ Θ (tNext D) := h
/-- a target -/
def TgR (g : TG) (vs : List Nat) (p : Vp) (Γ Γ' : Gam) : Prop := ∀ σ F H v, Same F H → EnvF Γ σ F → p.p F v → ∀ Q : L2.St → Hp → Prop, (∀ σ', EnvF Γ' σ' F → wipe σ' vs = wipe σ vs → Q σ' H) → g v σ H Q
theorem tg_name {i : Nat} {p : Vp} : TgR (gName i) [i] p Γ (Γ.set i (some p)) := fun σ F H v fh env hp Q q => q _ (env.set hp) (by
  show (σ.set i (some v)).set i none = σ.set i none
  rw [List.set_set])
theorem set_comm' {α : Type} {l : List α} {i j : Nat} {a b : α} (h : i ≠ j) : (l.set i a).set j b = (l.set j b).set i a := List.set_comm a b h
theorem tg2 {Kf : PySem.W.Frag} {i j : Nat} {α β : Type} {r : Rep α} {s : Rep β} {x : α × β} (hij : i ≠ j) : TgR (gTup Kf 2 (gCons (gName i) (gCons (gName j) gNil))) [i, j] (iz (z2 r s) x) Γ ((Γ.set i (some (iz r x.1))).set j (some (iz s x.2))) := fun σ F H v fh env hp Q q => by
  obtain ⟨a, u, w, rfl, h2, h3, h4⟩ := hp
  refine ⟨a, _, rfl, SqT.of (fh _ _ h2), rfl, u, _, rfl, w, _, rfl, rfl, q _ ((env.set (p := iz r x.1) h3).set (p := iz s x.2) h4) ?_⟩
  show ((((σ.set i (some u)).set j (some w)).set j none).set i none) = (σ.set j none).set i none
  rw [List.set_set, set_comm' hij, List.set_set]
theorem tg3 {Kf : PySem.W.Frag} {i j l : Nat} {α β γ : Type} {r : Rep α} {s : Rep β} {t : Rep γ} {x : α × β × γ} (hij : i ≠ j) (hil : i ≠ l) (hjl : j ≠ l) : TgR (gTup Kf 3 (gCons (gName i) (gCons (gName j) (gCons (gName l) gNil)))) [i, j, l] (iz (z3 r s t) x) Γ (((Γ.set i (some (iz r x.1))).set j (some (iz s x.2.1))).set l (some (iz t x.2.2))) := fun σ F H v fh env hp Q q => by
  obtain ⟨a, u, w, z, rfl, h2, h3, h4, h5⟩ := hp
  refine ⟨a, _, rfl, SqT.of (fh _ _ h2), rfl, u, _, rfl, w, _, rfl, z, _, rfl, rfl, q _ (((env.set (p := iz r x.1) h3).set (p := iz s x.2.1) h4).set (p := iz t x.2.2) h5) ?_⟩
  show ((((((σ.set i (some u)).set j (some w)).set l (some z)).set l none).set j none).set i none) = ((σ.set l none).set j none).set i none
  rw [List.set_set, set_comm' hjl, List.set_set, set_comm' hil, set_comm' hij, List.set_set]
theorem kn_asg {te : TE} {i : Nat} {D : Ends} (w : We fr Γ Θ te fun p Θ1 => Kn fr (Γ.set i (some p)) Θ1 D.nx) : Kn fr Γ Θ (tAsg te (gName i) D) := fun σ F H ok env =>
  w σ F H ok env _ fun p Θ1 k v F1 H1 s1 ok1 hp => k _ F1 H1 ok1 ((env.mono s1).set hp)
theorem kn_if {c : TT} {t u : TS} {D : Ends} (w : Wt fr Γ Θ c fun b Θ1 => (b = true → Kn fr Γ Θ1 (t D)) ∧ (b = false → Kn fr Γ Θ1 (u D))) : Kn fr Γ Θ (tIfS c t u D) := fun σ F H ok env =>
  w σ F H ok env _ fun b Θ1 ⟨k1, k2⟩ F1 H1 s1 ok1 => by
    cases b with
    | true =>
      rw [if_pos rfl]
      exact k1 rfl σ F1 H1 ok1 (env.mono s1)
    | false =>
      rw [if_neg Bool.false_ne_true]
      exact k2 rfl σ F1 H1 ok1 (env.mono s1)
/-- what is returned -/
def Rt (fr : Fr) (Θ : List Cel) (rt : VK) (p : Vp) : Prop := ∀ v F H, OkF fr Θ F H → p.p F v → rt v H
theorem kn_ret {te : TE} {D : Ends} (w : We fr Γ Θ te fun p Θ1 => Rt fr Θ1 D.rt p) : Kn fr Γ Θ (tRet te D) := fun σ F H ok env =>
  w σ F H ok env _ fun p Θ1 k v F1 H1 s1 ok1 hp => k v F1 H1 ok1 hp
theorem kn_drop {te : TE} {D : Ends} (w : We fr Γ Θ te fun p Θ1 => Kn fr Γ Θ1 D.nx) : Kn fr Γ Θ (tDrop te D) := fun σ F H ok env =>
  w σ F H ok env _ fun p Θ1 k v F1 H1 s1 ok1 hp => k σ F1 H1 ok1 (env.mono s1)
/-- less is known -/
def GLe (Γ Γ' : Gam) : Prop := Paired (fun (e e' : Option Vp) => e' = none ∨ e' = e) Γ Γ'
theorem EnvF.le {σ : L2.St} (h : EnvF Γ σ F) (l : GLe Γ Γ') : EnvF Γ' σ F := by
  induction l generalizing σ with
  | nil => exact h
  | cons a _ ih =>
    cases h with
    | cons b c =>
      refine .cons (fun p hp => ?_) (ih c)
      rcases a with a | a
      · rw [a] at hp
        cases hp
      · rw [a] at hp
        exact b p hp
theorem Kn.le {P : L2.St → Hp → Prop} (k : Kn fr Γ' Θ P) (l : GLe Γ Γ') : Kn fr Γ Θ P := fun σ F H ok env => k σ F H ok (env.le l)
/-- a point where ways meet -/
def Mid (fr : Fr) (I : Gam → List Cel → Prop) (σ : L2.St) (H : Hp) : Prop := ∃ Γ Θ F, I Γ Θ ∧ OkF fr Θ F H ∧ EnvF Γ σ F
theorem kn_mid {I : Gam → List Cel → Prop} (h : ∃ Γ', GLe Γ Γ' ∧ I Γ' Θ) : Kn fr Γ Θ (Mid fr I) := fun σ F H ok env => by
  obtain ⟨Γ', l, i⟩ := h
  exact ⟨Γ', Θ, F, i, ok, env.le l⟩
theorem kn_cut {t u : TS} {D : Ends} (I : Gam → List Cel → Prop) (h : Kn fr Γ Θ (t { D with nx := Mid fr I })) (k : ∀ Γ Θ, I Γ Θ → Kn fr Γ Θ (u D)) : Kn fr Γ Θ (C8.tCut t u D) := fun σ F H ok env =>
  ⟨Mid fr I, h σ F H ok env, fun σ' H' ⟨Γ1, Θ1, F1, i, ok1, env1⟩ => k Γ1 Θ1 i σ' F1 H' ok1 env1⟩
end
end L2
set_option Elab.async false
set_option linter.all false
set_option maxRecDepth 100000
set_option maxHeartbeats 4000000
namespace L2
open PySem PySem.Spec PyProof.Rows PySem.HErr
section
variable {fr : Fr} {Γ Γ' : Gam} {Θ : List Cel} {F F' H H' : Hp} {K : Vp → List Cel → Prop} {Q : VK}
theorem ops_I0 {h : Int → Int → Int} {m n : Int} (k : K (iz zI (h m n)) Θ) : Ops fr Θ (rI0 fun i j => .int (h i j)) (iz zI m) (iz zI n) K := fun F H v w ok hv hw Q q => ⟨m, n, hv, hw, q.go k ok rfl⟩
theorem ops_B0 {h : Int → Int → Bool} {m n : Int} (k : K (iz zB (h m n)) Θ) : Ops fr Θ (rI0 fun i j => .bl (h i j)) (iz zI m) (iz zI n) K := fun F H v w ok hv hw Q q => ⟨m, n, hv, hw, q.go k ok rfl⟩
theorem ops_IC {C : Int → Int → Prop} {h : Int → Int → Int} {m n : Int} (c : C m n) (k : K (iz zI (h m n)) Θ) : Ops fr Θ (rI C fun i j => .int (h i j)) (iz zI m) (iz zI n) K := fun F H v w ok hv hw Q q => ⟨m, n, hv, hw, c, q.go k ok rfl⟩
theorem uns_I {h : Int → Int} {m : Int} (k : K (iz zI (h m)) Θ) : Uns fr Θ (rU fun i => .int (h i)) (iz zI m) K := fun F H v ok hv Q q => ⟨m, hv, q.go k ok rfl⟩
theorem dec_inj {α : Type} [DecidableEq α] {c : α → V} (hc : ∀ x y, c x = c y → x = y) (x y : α) : decide (c x = c y) = decide (x = y) := by
  by_cases e : x = y
  · rw [e, decide_eq_true rfl, decide_eq_true rfl]
  · rw [decide_eq_false e, decide_eq_false fun q => e (hc _ _ q)]
theorem ops_eqI {m n : Int} (k : K (iz zB (decide (m = n))) Θ) : Ops fr Θ rEq (iz zI m) (iz zI n) K := fun F H v w ok hv hw Q q => by
  have hv : v = .int m := hv
  have hw : w = .int n := hw
  subst hv hw
  refine ⟨rfl, ?_⟩
  rw [dec_inj (fun x y => V.int.inj)]
  exact q.go k ok rfl
theorem ops_neI {m n : Int} (k : K (iz zB (!decide (m = n))) Θ) : Ops fr Θ rNe (iz zI m) (iz zI n) K := fun F H v w ok hv hw Q q => by
  have hv : v = .int m := hv
  have hw : w = .int n := hw
  subst hv hw
  refine ⟨rfl, ?_⟩
  rw [dec_inj (fun x y => V.int.inj)]
  exact q.go k ok rfl
theorem ops_eqS {m n : Str} (k : K (iz zB (decide (m = n))) Θ) : Ops fr Θ rEq (iz zS m) (iz zS n) K := fun F H v w ok hv hw Q q => by
  obtain ⟨hv, _⟩ := hv
  obtain ⟨hw, _⟩ := hw
  subst hv hw
  refine ⟨rfl, ?_⟩
  rw [dec_inj (fun x y => V.str.inj)]
  exact q.go k ok rfl
theorem ops_neS {m n : Str} (k : K (iz zB (!decide (m = n))) Θ) : Ops fr Θ rNe (iz zS m) (iz zS n) K := fun F H v w ok hv hw Q q => by
  obtain ⟨hv, _⟩ := hv
  obtain ⟨hw, _⟩ := hw
  subst hv hw
  refine ⟨rfl, ?_⟩
  rw [dec_inj (fun x y => V.str.inj)]
  exact q.go k ok rfl
theorem ops_eqB {m n : Bool} (k : K (iz zB (decide (m = n))) Θ) : Ops fr Θ rEq (iz zB m) (iz zB n) K := fun F H v w ok hv hw Q q => by
  have hv : v = .bl m := hv
  have hw : w = .bl n := hw
  subst hv hw
  refine ⟨rfl, ?_⟩
  rw [dec_inj (fun x y => V.bl.inj)]
  exact q.go k ok rfl
theorem ops_neB {m n : Bool} (k : K (iz zB (!decide (m = n))) Θ) : Ops fr Θ rNe (iz zB m) (iz zB n) K := fun F H v w ok hv hw Q q => by
  have hv : v = .bl m := hv
  have hw : w = .bl n := hw
  subst hv hw
  refine ⟨rfl, ?_⟩
  rw [dec_inj (fun x y => V.bl.inj)]
  exact q.go k ok rfl
theorem ops_addS {m n : Str} (hl : m.length + n.length ≤ sizeLine) (k : K (iz zS (m ++ n)) Θ) : Ops fr Θ (fun x y H Q => ∃ i j, x = .str i ∧ y = .str j ∧ i.length + j.length ≤ sizeLine ∧ Q (.str (i ++ j)) H) (iz zS m) (iz zS n) K := fun F H v w ok hv hw Q q => by
  obtain ⟨hv, a1⟩ := hv
  obtain ⟨hw, a2⟩ := hw
  exact ⟨m, n, hv, hw, hl, q.go k ok ⟨rfl, a1.app a2⟩⟩
theorem pvs_S {vs : List V} {xs : List Str} (h : PVs zS F vs xs) : vs = xs.map V.str ∧ ∀ x ∈ xs, Asc x := by
  induction h with
  | nil => exact ⟨rfl, fun x hx => by cases hx⟩
  | cons a _ ih =>
    obtain ⟨a1, a2⟩ := a
    refine ⟨by rw [a1, ih.1]; rfl, fun x hx => ?_⟩
    rcases List.mem_cons.mp hx with rfl | hx
    · exact a2
    · exact ih.2 x hx
theorem pvs_I {vs : List V} {xs : List Int} (h : PVs zI F vs xs) : vs = xs.map V.int := by
  induction h with
  | nil => rfl
  | cons a _ ih =>
    have a : _ = V.int _ := a
    rw [a, ih]
    rfl
theorem pvs_B {vs : List V} {xs : List Bool} (h : PVs zB F vs xs) : vs = xs.map V.bl := by
  induction h with
  | nil => rfl
  | cons a _ ih =>
    have a : _ = V.bl _ := a
    rw [a, ih]
    rfl
theorem inV_ints (n : Int) (ws : List Int) : inV (.int n) (ws.map V.int) = decide (n ∈ ws) := by
  induction ws with
  | nil => rfl
  | cons a ws ih =>
    unfold inV at ih ⊢
    rw [List.map_cons, List.any_cons, ih]
    have e : eqV (V.int a) (V.int n) = decide (a = n) := rfl
    rw [e]
    by_cases h : a = n
    · rw [h]
      simp
    · rw [decide_eq_false h, Bool.false_or]
      by_cases h2 : n ∈ ws
      · rw [decide_eq_true h2, decide_eq_true (List.mem_cons_of_mem _ h2)]
      · rw [decide_eq_false h2, decide_eq_false fun q => (List.mem_cons.mp q).elim (fun e => h e.symm) h2]
theorem flat_intsG (ws : List Int) : (ws.map V.int).all flatV = true := by
  rw [List.all_map, List.all_eq_true]
  intro x _
  rfl
/-- a thing whose entries are xs, to be read: a frozen list, a frozen tuple, a cell -/
def SeqP {α : Type} (fr : Fr) (Θ : List Cel) (p : Vp) (r : Rep α) (xs : List α) : Prop := ∀ F H v, OkF fr Θ F H → p.p F v → ∃ a vs, v = .ref a ∧ (Rd H a (.lst vs) ∨ Rd H a (.tup vs)) ∧ PVs r F vs xs
theorem seq_L {α : Type} {r : Rep α} {xs : List α} : SeqP fr Θ (iz (zL r) xs) r xs := fun F H v ok ⟨a, vs, h1, h2, h3⟩ => ⟨a, vs, h1, .inl (.inl (ok.fh _ _ h2)), h3⟩
theorem seq_T {α : Type} [TNar α] {r : Rep α} {xs : List α} : SeqP fr Θ (iz (zT r) xs) r xs := fun F H v ok ⟨a, vs, h1, h2, h3⟩ => ⟨a, vs, h1, .inr (h2.mono ok.fh).rd, h3⟩
theorem seq_C {α : Type} {r : Rep α} {xs : List α} {a : Addr} (hc : cL a r xs ∈ Θ) : SeqP fr Θ (zAt a) r xs := fun F H v ok hv => by
  obtain ⟨_, ⟨o, h2, vs, rfl, h4⟩, _⟩ := ok.ce _ hc
  exact ⟨a, vs, hv, .inl (.inl h2), h4⟩
theorem sq_or {Kf : PySem.W.Frag} {a : Addr} {vs : List V} (h : Rd H a (.lst vs) ∨ Rd H a (.tup vs)) : SqL Kf H a vs ∨ SqT Kf H a vs := h.elim (fun h => .inl (.inl h)) fun h => .inr (.inl h)
theorem ops_inS {Kf : PySem.W.Frag} {p : Vp} {z : Str} {xs : List Str} (h : SeqP fr Θ p zS xs) (k : K (iz zB (decide (z ∈ xs))) Θ) : Ops fr Θ (rIn Kf false) (iz zS z) p K := fun F H v w ok hv hw Q q => by
  obtain ⟨hv, _⟩ := hv
  obtain ⟨a, vs, rfl, h2, h3⟩ := h F H w ok hw
  obtain ⟨rfl, _⟩ := pvs_S h3
  subst hv
  refine ⟨a, _, rfl, sq_or h2, rfl, flat_strsB _, ?_⟩
  rw [inV_strs]
  exact q.go k ok rfl
theorem ops_ninS {Kf : PySem.W.Frag} {p : Vp} {z : Str} {xs : List Str} (h : SeqP fr Θ p zS xs) (k : K (iz zB (!decide (z ∈ xs))) Θ) : Ops fr Θ (rIn Kf true) (iz zS z) p K := fun F H v w ok hv hw Q q => by
  obtain ⟨hv, _⟩ := hv
  obtain ⟨a, vs, rfl, h2, h3⟩ := h F H w ok hw
  obtain ⟨rfl, _⟩ := pvs_S h3
  subst hv
  refine ⟨a, _, rfl, sq_or h2, rfl, flat_strsB _, ?_⟩
  rw [inV_strs]
  exact q.go k ok rfl
theorem ops_inI {Kf : PySem.W.Frag} {p : Vp} {z : Int} {xs : List Int} (h : SeqP fr Θ p zI xs) (k : K (iz zB (decide (z ∈ xs))) Θ) : Ops fr Θ (rIn Kf false) (iz zI z) p K := fun F H v w ok hv hw Q q => by
  have hv : v = .int z := hv
  obtain ⟨a, vs, rfl, h2, h3⟩ := h F H w ok hw
  have := pvs_I h3
  subst hv this
  refine ⟨a, _, rfl, sq_or h2, rfl, flat_intsG _, ?_⟩
  rw [inV_ints]
  exact q.go k ok rfl
theorem pvs_at {α : Type} {r : Rep α} {vs : List V} {xs : List α} {n : Int} {x : α} (h : PVs r F vs xs) (e : atI xs n = some x) : ∃ v, atI vs n = some v ∧ r.p F v x := by
  unfold atI at e ⊢
  rw [Paired.len h]
  cases q : ixN xs.length n with
  | none =>
    rw [q] at e
    cases e
  | some j =>
    rw [q] at e
    exact Paired.get' h e
theorem ops_ixL {Kf : PySem.W.Frag} {α : Type} {r : Rep α} {xs : List α} {n : Int} {x : α} (e : atI xs n = some x) (k : K (iz r x) Θ) : Ops fr Θ (rIxL Kf) (iz (zL r) xs) (iz zI n) K := fun F H v w ok hv hw Q q => by
  obtain ⟨a, vs, rfl, h2, h3⟩ := hv
  obtain ⟨u, h4, h5⟩ := pvs_at h3 e
  exact ⟨a, vs, n, u, rfl, hw, SqL.of (ok.fh _ _ h2), h4, q.go k ok h5⟩
theorem ops_ixT {Kf : PySem.W.Frag} {α : Type} [TNar α] {r : Rep α} {xs : List α} {n : Int} {x : α} (e : atI xs n = some x) (k : K (iz r x) Θ) : Ops fr Θ (rIxT Kf) (iz (zT r) xs) (iz zI n) K := fun F H v w ok hv hw Q q => by
  obtain ⟨a, vs, rfl, h2, h3⟩ := hv
  obtain ⟨u, h4, h5⟩ := pvs_at h3 e
  exact ⟨a, vs, n, u, rfl, hw, h2.sq ok.fh, h4, q.go k ok h5⟩
/-- x[0], x[1] of a pair; x[0], x[1], x[2] of a triple -/
theorem ops_ix20 {Kf : PySem.W.Frag} {α β : Type} {r : Rep α} {s : Rep β} {x : α × β} (k : K (iz r x.1) Θ) : Ops fr Θ (rIxT Kf) (iz (z2 r s) x) (iz zI 0) K := fun F H v w ok hv hw Q q => by
  obtain ⟨a, u, z, rfl, h2, h3, h4⟩ := hv
  exact ⟨a, _, 0, u, rfl, hw, SqT.of (ok.fh _ _ h2), rfl, q.go k ok h3⟩
theorem ops_ix21 {Kf : PySem.W.Frag} {α β : Type} {r : Rep α} {s : Rep β} {x : α × β} (k : K (iz s x.2) Θ) : Ops fr Θ (rIxT Kf) (iz (z2 r s) x) (iz zI 1) K := fun F H v w ok hv hw Q q => by
  obtain ⟨a, u, z, rfl, h2, h3, h4⟩ := hv
  exact ⟨a, _, 1, z, rfl, hw, SqT.of (ok.fh _ _ h2), rfl, q.go k ok h4⟩
theorem ops_ix30 {Kf : PySem.W.Frag} {α β γ : Type} {r : Rep α} {s : Rep β} {t : Rep γ} {x : α × β × γ} (k : K (iz r x.1) Θ) : Ops fr Θ (rIxT Kf) (iz (z3 r s t) x) (iz zI 0) K := fun F H v w ok hv hw Q q => by
  obtain ⟨a, u, z, y, rfl, h2, h3, h4, h5⟩ := hv
  exact ⟨a, _, 0, u, rfl, hw, SqT.of (ok.fh _ _ h2), rfl, q.go k ok h3⟩
theorem ops_ix31 {Kf : PySem.W.Frag} {α β γ : Type} {r : Rep α} {s : Rep β} {t : Rep γ} {x : α × β × γ} (k : K (iz s x.2.1) Θ) : Ops fr Θ (rIxT Kf) (iz (z3 r s t) x) (iz zI 1) K := fun F H v w ok hv hw Q q => by
  obtain ⟨a, u, z, y, rfl, h2, h3, h4, h5⟩ := hv
  exact ⟨a, _, 1, z, rfl, hw, SqT.of (ok.fh _ _ h2), rfl, q.go k ok h4⟩
theorem ops_ix32 {Kf : PySem.W.Frag} {α β γ : Type} {r : Rep α} {s : Rep β} {t : Rep γ} {x : α × β × γ} (k : K (iz t x.2.2) Θ) : Ops fr Θ (rIxT Kf) (iz (z3 r s t) x) (iz zI 2) K := fun F H v w ok hv hw Q q => by
  obtain ⟨a, u, z, y, rfl, h2, h3, h4, h5⟩ := hv
  exact ⟨a, _, 2, y, rfl, hw, SqT.of (ok.fh _ _ h2), rfl, q.go k ok h5⟩
theorem ops_ixS {z : Str} {n : Int} {c : Nat} (hl : z.length ≤ sizeLine) (e : atI z.cps.toList n = some c) (k : K (iz zS ⟨#[c]⟩) Θ) : Ops fr Θ rIxS (iz zS z) (iz zI n) K := fun F H v w ok hv hw Q q => by
  obtain ⟨hv, ha⟩ := hv
  refine ⟨z, n, c, hv, hw, hl, e, q.go k ok ⟨rfl, Asc.one (ha c ?_)⟩⟩
  unfold atI at e
  cases j : ixN z.cps.toList.length n with
  | none => rw [j] at e; cases e
  | some j' =>
    rw [j] at e
    exact List.mem_of_getElem? e
def TupR (ps : List Vp) (q : Vp) : Prop := ∀ F a vs, F a = some (HO.tup vs) → Paired (fun (p : Vp) v => p.p F v) ps vs → q.p F (.ref a)
theorem small_len {α β : Type} {R : α → β → Prop} {l : List α} {m : List β} (h : Paired R l m) (hl : l.length ≤ 1000) : m.length ≤ sizeLine := by
  rw [← Paired.len h]
  exact Nat.le_of_lt (small1000 hl)
theorem ps_mono {ps : List Vp} {vs : List V} (e : Same F F') (h : Paired (fun (p : Vp) v => p.p F v) ps vs) : Paired (fun (p : Vp) v => p.p F' v) ps vs := Paired.imp2 (fun p _ h => p.mono e h) h
theorem we_tup {t : TA} (w : Wa fr Γ Θ t fun ps Θ1 => ps.length ≤ 1000 ∧ ∃ q, TupR ps q ∧ K q Θ1) : We fr Γ Θ (tTup t) K := fun σ F H ok env Q q =>
  w σ F H ok env _ fun ps Θ1 ⟨hl, p, tr, k⟩ vs F1 H1 s1 ok1 hps => ⟨small_len hps hl, fun a na => (q.mono s1).new k ok1 na (tr _ a vs upd_same (ps_mono (ok1.sameF na) hps))⟩
theorem tr2 {α β : Type} {r : Rep α} {s : Rep β} {x : α} {y : β} : TupR [iz r x, iz s y] (iz (z2 r s) (x, y)) := fun F a vs h hp => by
  cases hp with
  | cons h1 hp => cases hp with
    | cons h2 hp => cases hp with
      | nil => exact ⟨a, _, _, rfl, h, h1, h2⟩
theorem tr3 {α β γ : Type} {r : Rep α} {s : Rep β} {t : Rep γ} {x : α} {y : β} {z : γ} : TupR [iz r x, iz s y, iz t z] (iz (z3 r s t) (x, y, z)) := fun F a vs h hp => by
  cases hp with
  | cons h1 hp => cases hp with
    | cons h2 hp => cases hp with
      | cons h3 hp => cases hp with
        | nil => exact ⟨a, _, _, _, rfl, h, h1, h2, h3⟩
theorem pvs_map {α : Type} {r : Rep α} {vs : List V} : ∀ {xs : List α}, Paired (fun (p : Vp) v => p.p F v) (xs.map (iz r)) vs → PVs r F vs xs := fun {xs} h => by
  induction xs generalizing vs with
  | nil => cases h; exact .nil
  | cons x xs ih => cases h with
    | cons a b => exact .cons a (ih b)
/-- a list, frozen -/
theorem we_lst {α : Type} {r : Rep α} {t : TA} (w : Wa fr Γ Θ t fun ps Θ1 => ∃ xs : List α, ps = xs.map (iz r) ∧ ps.length ≤ 1000 ∧ K (iz (zL r) xs) Θ1) : We fr Γ Θ (tLst t) K := fun σ F H ok env Q q =>
  w σ F H ok env _ fun ps Θ1 ⟨xs, e, hl, k⟩ vs F1 H1 s1 ok1 hps => ⟨small_len hps hl, fun a na => by
    subst e
    exact (q.mono s1).new k ok1 na ⟨a, vs, rfl, upd_same, pvs_map (ps_mono (ok1.sameF na) hps)⟩⟩
/-- a list, one's own -/
theorem we_own {α : Type} (r : Rep α) {t : TA} (w : Wa fr Γ Θ t fun ps Θ1 => ∃ xs : List α, ps = xs.map (iz r) ∧ ps.length ≤ 1000 ∧ ∀ a, K (zAt a) (cL a r xs :: Θ1)) : We fr Γ Θ (tLst t) K := fun σ F H ok env Q q =>
  w σ F H ok env _ fun ps Θ1 ⟨xs, e, hl, k⟩ vs F1 H1 s1 ok1 hps => ⟨small_len hps hl, fun a na => by
    subst e
    exact q _ _ (k a) _ F1 _ s1 (ok1.mkOwn (c := cL a r xs) na rfl ⟨vs, rfl, pvs_map hps⟩) rfl⟩
theorem cb_len {Kf : PySem.W.Frag} {α : Type} {r : Rep α} {xs : List α} {p : Vp} (h : SeqP fr Θ p r xs) (k : K (iz zI xs.length) Θ) : Cbs fr Θ (rLenQ Kf) [p] K := fun F H vs ok hps Q q => by
  cases hps with
  | cons h1 hp => cases hp with
    | nil =>
      obtain ⟨a, us, rfl, h2, h3⟩ := h F H _ ok h1
      refine ⟨a, us, rfl, sq_or h2, ?_⟩
      rw [Paired.len h3]
      exact q.go k ok rfl
theorem cb_lenS {z : Str} (hl : z.length ≤ sizeLine) (k : K (iz zI z.length) Θ) : Cbs fr Θ (fun xs H Q => ∃ z, xs = [.str z] ∧ z.length ≤ sizeLine ∧ Q (.int z.length) H) [iz zS z] K := fun F H vs ok hps Q q => by
  cases hps with
  | cons h1 hp => cases hp with
    | nil => exact ⟨z, by rw [h1.1], hl, q.go k ok rfl⟩
theorem cb_list {Kf : PySem.W.Frag} {α : Type} {r : Rep α} {xs : List α} {p : Vp} (h : SeqP fr Θ p r xs) (k : K (iz (zL r) xs) Θ) : Cbs fr Θ (rListQ Kf) [p] K := fun F H vs ok hps Q q => by
  cases hps with
  | cons h1 hp => cases hp with
    | nil =>
      obtain ⟨a, us, rfl, h2, h3⟩ := h F H _ ok h1
      exact ⟨a, us, rfl, sq_or h2, fun l nl => q.new k ok nl ⟨l, us, rfl, upd_same, Paired.imp2 (fun _ _ h => r.mono (ok.sameF nl) h) h3⟩⟩
theorem cb_tuple {Kf : PySem.W.Frag} {α : Type} [TNar α] {r : Rep α} {xs : List α} {p : Vp} (h : ∀ F H v, OkF fr Θ F H → p.p F v → ∃ a vs, v = .ref a ∧ (H a = some (.lst vs) ∨ TupB (TNar.nar xs) F a vs) ∧ PVs r F vs xs) (k : K (iz (zT r) xs) Θ) : Cbs fr Θ (rTupQ Kf) [p] K := fun F H vs ok hps Q q => by
  cases hps with
  | cons h1 hp => cases hp with
    | nil =>
      obtain ⟨a, us, rfl, h2, h3⟩ := h F H _ ok h1
      refine ⟨a, us, rfl, ?_⟩
      rcases h2 with h2 | h2
      · exact .inl ⟨SqL.of h2, fun l nl => q.new k ok nl ⟨l, us, rfl, .inl upd_same, Paired.imp2 (fun _ _ h => r.mono (ok.sameF nl) h) h3⟩⟩
      · exact .inr ⟨h2.sq ok.fh, q.go k ok ⟨a, us, rfl, h2, h3⟩⟩
theorem cb_tupleL {Kf : PySem.W.Frag} {α : Type} [TNar α] {r : Rep α} {xs : List α} (k : K (iz (zT r) xs) Θ) : Cbs fr Θ (rTupQ Kf) [iz (zL r) xs] K := cb_tuple (fun F H v ok ⟨a, vs, h1, h2, h3⟩ => ⟨a, vs, h1, .inl (ok.fh _ _ h2), h3⟩) k
theorem le_KT {xs : List Str} : ∀ F v, (iz zK xs).p F v → (iz (zT zS) xs).p F v := fun F v ⟨a, vs, h1, h2, h3⟩ => ⟨a, vs, h1, h2.tb, h3⟩
theorem cb_tupleLN {Kf : PySem.W.Frag} {α : Type} {r : Rep α} {xs : List α} (k : K (iz (zN r) xs) Θ) : Cbs fr Θ (rTupQ Kf) [iz (zL r) xs] K := fun F H vs ok hps Q q => by
  cases hps with
  | cons h1 hp => cases hp with
    | nil =>
      obtain ⟨a, us, rfl, h2, h3⟩ := h1
      exact ⟨a, us, rfl, .inl ⟨SqL.of (ok.fh _ _ h2), fun l nl => q.new k ok nl ⟨l, us, rfl, upd_same, Paired.imp2 (fun _ _ h => r.mono (ok.sameF nl) h) h3⟩⟩⟩
/-- tuple(l): the new place is bare -/
def rTupX (K : PySem.W.Frag) : List V → Hp → VK → Prop := fun xs H Q => ∃ p ys, xs = [.ref p] ∧ SqL K H p ys ∧ ∀ l, H l = none → ∀ o : Obj, o.cls = .type "tuple" → o.dict = none → Q (.ref l) (upd H l (if ys.isEmpty = true then .tup ys else .frz o (.tup ys)))
theorem call_tupleX {X : Cx} : CallR X (.type "tuple") (rTupX X.K) := by
  intro pins s σ H xs us Q I r h
  obtain ⟨p, ys, rfl, hq, q⟩ := h
  obtain ⟨u, rfl, rx⟩ := vals1 r
  cases rx
  obtain ⟨its, r', pl, hz⟩ := I.list hq
  have hlen := r'.length
  refine call_tuple_list pl.isList (fun h' kp => ?_) (by simp only [List.size_toArray] <;> omega)
  have I1 : Inv X pins σ H { s with heap := h' } := I.kept (t' := s.toks) kp
  have q := q h'.objs.size (I1.hok.fresh (Nat.le_refl _)) { cls := .type "tuple", data := .seq its.toArray } rfl rfl
  have I2 : Inv X pins σ (upd H h'.objs.size (if ys.isEmpty = true then .tup ys else .frz { cls := .type "tuple", data := .seq its.toArray } (.tup ys))) { s with heap := h'.push { cls := .type "tuple", data := .seq its.toArray } } := by
    refine I1.laid (t' := s.toks) (fun b o e => Heap.get?_push_of_some _ e) (Nat.le_refl _) ?_
    by_cases e : ys.isEmpty = true
    · rw [if_pos e]
      exact (show ObjOk X.prog X.w _ _ _ (.tup ys) from ⟨hz, its, r', IsTup.new _ _⟩)
    · rw [if_neg e]
      exact (show ObjOk X.prog X.w _ _ _ (.frz _ (.tup ys)) from ⟨Heap.get?_push_size _ (by rfl), hz, its, r', IsTup.new _ _⟩)
  exact ⟨.ref h'.objs.size, _, I2, rfl, q⟩
theorem kcall_tupleX {X : Cx} {K : PySem.W.Frag} (h : X.K = K := by rfl) : CallR X (.type "tuple") (rTupX K) := h ▸ call_tupleX
theorem cb_tupleX {Kf : PySem.W.Frag} {xs : List Str} {a : Addr} (hc : cL a zS xs ∈ Θ) (k : K (iz zK xs) Θ) : Cbs fr Θ (rTupX Kf) [zAt a] K := fun F H vs ok hps Q q => by
  cases hps with
  | cons h1 hp => cases hp with
    | nil =>
      have h1 : _ = V.ref a := h1
      subst h1
      obtain ⟨_, ⟨o, h2, us, rfl, h4⟩, _⟩ := ok.ce _ hc
      refine ⟨a, us, rfl, SqL.of h2, fun l nl o oc od => q.new k ok nl ⟨l, us, rfl, ?_, Paired.imp2 (fun _ _ h => zS.mono (ok.sameF nl) h) h4⟩⟩
      cases h4 with
      | nil => exact .inl ⟨rfl, by rw [upd_same]; rfl⟩
      | cons b c => exact .inr ⟨rfl, o, by rw [upd_same]; rfl, oc, od⟩
theorem cb_tupleT {Kf : PySem.W.Frag} {α : Type} [TNar α] {r : Rep α} {xs : List α} (k : K (iz (zT r) xs) Θ) : Cbs fr Θ (rTupQ Kf) [iz (zT r) xs] K := cb_tuple (fun F H v ok ⟨a, vs, h1, h2, h3⟩ => ⟨a, vs, h1, .inr h2, h3⟩) k
theorem cb_tupleC {Kf : PySem.W.Frag} {α : Type} [TNar α] {r : Rep α} {xs : List α} {a : Addr} (hc : cL a r xs ∈ Θ) (k : K (iz (zT r) xs) Θ) : Cbs fr Θ (rTupQ Kf) [zAt a] K := cb_tuple (fun F H v ok hv => by
  obtain ⟨_, ⟨o, h2, vs, rfl, h4⟩, _⟩ := ok.ce _ hc
  exact ⟨a, vs, hv, .inl h2, h4⟩) k
theorem cb_any {Kf : PySem.W.Frag} {xs : List Bool} (k : K (iz zB (xs.any id)) Θ) : Cbs fr Θ (rAny Kf) [iz (zL zB) xs] K := fun F H vs ok hps Q q => by
  cases hps with
  | cons h1 hp => cases hp with
    | nil =>
      obtain ⟨a, us, rfl, h2, h3⟩ := h1
      have := pvs_B h3
      subst this
      exact ⟨a, xs, rfl, SqL.of (ok.fh _ _ h2), q.go k ok rfl⟩
theorem cb_all {Kf : PySem.W.Frag} {xs : List Bool} (k : K (iz zB (xs.all id)) Θ) : Cbs fr Θ (rAll Kf) [iz (zL zB) xs] K := fun F H vs ok hps Q q => by
  cases hps with
  | cons h1 hp => cases hp with
    | nil =>
      obtain ⟨a, us, rfl, h2, h3⟩ := h1
      have := pvs_B h3
      subst this
      exact ⟨a, xs, rfl, SqL.of (ok.fh _ _ h2), q.go k ok rfl⟩
theorem cb_sum {Kf : PySem.W.Frag} {xs : List Int} (k : K (iz zI xs.sum) Θ) : Cbs fr Θ (rSum Kf) [iz (zL zI) xs] K := fun F H vs ok hps Q q => by
  cases hps with
  | cons h1 hp => cases hp with
    | nil =>
      obtain ⟨a, us, rfl, h2, h3⟩ := h1
      have := pvs_I h3
      subst this
      exact ⟨a, xs, rfl, SqL.of (ok.fh _ _ h2), q.go k ok rfl⟩
theorem cb_int {n : Int} (k : K (iz zI n) Θ) : Cbs fr Θ (fun xs H Q => (∃ i, xs = [.int i] ∧ Q (.int i) H) ∨ ∃ k, xs = [.bl k] ∧ Q (.int (if k then 1 else 0)) H) [iz zI n] K := fun F H vs ok hps Q q => by
  cases hps with
  | cons h1 hp => cases hp with
    | nil =>
      have h1 : _ = V.int n := h1
      subst h1
      exact .inl ⟨n, rfl, q.go k ok rfl⟩
theorem cb_abs {n : Int} (k : K (iz zI (if n < 0 then -n else n)) Θ) : Cbs fr Θ (fun xs H Q => ∃ i, xs = [.int i] ∧ Q (.int (if i < 0 then -i else i)) H) [iz zI n] K := fun F H vs ok hps Q q => by
  cases hps with
  | cons h1 hp => cases hp with
    | nil =>
      have h1 : _ = V.int n := h1
      subst h1
      exact ⟨n, rfl, q.go k ok rfl⟩
def cutX {α : Type} (xs : List α) (lo hi : Option Int) : List α := (xs.drop (HT.sIx xs.length 0 lo)).take (HT.sIx xs.length xs.length hi - HT.sIx xs.length 0 lo)
theorem pvs_cut {α : Type} {r : Rep α} {vs : List V} {xs : List α} {lo hi : Option Int} (h : PVs r F vs xs) : PVs r F (cutV vs lo hi) (cutX xs lo hi) := by
  unfold cutV cutX
  rw [Paired.len h]
  exact Paired.take _ (Paired.drop _ h)
theorem sls_L {Kf : PySem.W.Frag} {α : Type} {r : Rep α} {xs : List α} {lo hi : Option Int} (k : K (iz (zL r) (cutX xs lo hi)) Θ) : Sls fr Θ (rSlL Kf) (iz (zL r) xs) lo hi K := fun F H v ok hv Q q => by
  obtain ⟨a, vs, rfl, h2, h3⟩ := hv
  exact ⟨a, vs, rfl, SqL.of (ok.fh _ _ h2), fun l nl => q.new k ok nl ⟨l, _, rfl, upd_same, Paired.imp2 (fun _ _ h => r.mono (ok.sameF nl) h) (pvs_cut h3)⟩⟩
theorem ops_cat {α : Type} {r : Rep α} {xs ys : List α} (hl : xs.length + ys.length ≤ sizeLine) (k : K (iz (zL r) (xs ++ ys)) Θ) : Ops fr Θ rCat (iz (zL r) xs) (iz (zL r) ys) K := fun F H v w ok hv hw Q q => by
  obtain ⟨a, vs, rfl, h2, h3⟩ := hv
  obtain ⟨b, us, rfl, h4, h5⟩ := hw
  exact ⟨a, b, vs, us, rfl, rfl, ok.fh _ _ h2, ok.fh _ _ h4, by rw [Paired.len h3, Paired.len h5]; exact hl, fun l nl => q.new k ok nl ⟨l, _, rfl, upd_same, Paired.imp2 (fun _ _ h => r.mono (ok.sameF nl) h) (Paired.app h3 h5)⟩⟩
def Newer (F H F' : Hp) : Prop := ∀ a o, F' a = some o → Nwr F H a o
theorem Newer.refl (F H : Hp) : Newer F H F := fun _ o h => .inl ⟨o, h⟩
/-- the iterator J gives the things its, as long as F stands -/
def JOk (J : It) (F : Hp) (its : List Vp) : Prop := ∀ F1 H1, Same F F1 → Same F1 H1 → (∀ i p, its[i]? = some p → J.go i H1 ∧ ∀ x H2, J.yld i H1 x H2 → ∃ F2, Same F1 F2 ∧ Same H1 H2 ∧ Same F2 H2 ∧ Newer F1 H1 F2 ∧ p.p F2 x) ∧ J.stop its.length H1
def Wi (fr : Fr) (Γ : Gam) (Θ : List Cel) (wi : TI) (K : List Vp → List Cel → Prop) : Prop := ∀ σ F H, OkF fr Θ F H → EnvF Γ σ F → ∀ R : It → Hp → Prop, (∀ its Θ', K its Θ' → ∀ J F' H', Same F F' → OkF fr Θ' F' H' → JOk J F' its → R J H') → wi σ H R
theorem get_izs {α : Type} {r : Rep α} {xs : List α} {i : Nat} {p : Vp} (h : (xs.map (iz r))[i]? = some p) : ∃ x, xs[i]? = some x ∧ p = iz r x := by
  rw [List.getElem?_map] at h
  obtain ⟨x, hx, e⟩ := Option.map_eq_some_iff.mp h
  exact ⟨x, hx, e.symm⟩
theorem wi_list {Kf : PySem.W.Frag} {tl : TE} {K : List Vp → List Cel → Prop} (w : We fr Γ Θ tl fun p Θ1 => ∃ (α : Type) (r : Rep α) (xs : List α), p = iz (zL r) xs ∧ K (xs.map (iz r)) Θ1) : Wi fr Γ Θ (iList Kf tl) K := fun σ F H ok env R q =>
  w σ F H ok env _ fun p Θ1 ⟨α, r, xs, e, k⟩ v F1 H1 s1 ok1 hp => by
    subst e
    obtain ⟨a, vs, rfl, h2, h3⟩ := hp
    refine ⟨a, rfl, ⟨_, SqL.of (ok1.fh _ _ h2)⟩, q _ Θ1 k _ F1 H1 s1 ok1 fun F2 H2 s2 fh => ⟨fun i p hi => ?_, ?_⟩⟩
    · obtain ⟨x, hx, rfl⟩ := get_izs hi
      obtain ⟨u, hu, hux⟩ := Paired.get' h3 hx
      have sq : SqL Kf H2 a vs := SqL.of (fh _ _ (s2 _ _ h2))
      refine ⟨⟨vs, u, sq, hu⟩, fun y H3 ⟨e, hy⟩ => ?_⟩
      subst e
      have hy := hy vs sq
      rw [hu] at hy
      cases hy
      exact ⟨F2, Same.refl _, Same.refl _, fh, Newer.refl _ _, r.mono s2 hux⟩
    · rw [List.length_map, ← Paired.len h3]
      exact ⟨vs, SqL.of (fh _ _ (s2 _ _ h2)), Nat.le_refl _⟩
theorem wi_tup {Kf : PySem.W.Frag} {tl : TE} {K : List Vp → List Cel → Prop} (w : We fr Γ Θ tl fun p Θ1 => ∃ (α : Type) (_ : TNar α) (r : Rep α) (xs : List α), p = iz (zT r) xs ∧ K (xs.map (iz r)) Θ1) : Wi fr Γ Θ (iTup Kf tl) K := fun σ F H ok env R q =>
  w σ F H ok env _ fun p Θ1 ⟨α, _, r, xs, e, k⟩ v F1 H1 s1 ok1 hp => by
    subst e
    obtain ⟨a, vs, rfl, h2, h3⟩ := hp
    refine ⟨a, rfl, ⟨_, h2.sq ok1.fh⟩, q _ Θ1 k _ F1 H1 s1 ok1 fun F2 H2 s2 fh => ⟨fun i p hi => ?_, ?_⟩⟩
    · obtain ⟨x, hx, rfl⟩ := get_izs hi
      obtain ⟨u, hu, hux⟩ := Paired.get' h3 hx
      have sq : SqT Kf H2 a vs := (h2.mono s2).sq fh
      refine ⟨⟨vs, u, sq, hu⟩, fun y H3 ⟨e, hy⟩ => ?_⟩
      subst e
      have hy := hy vs sq
      rw [hu] at hy
      cases hy
      exact ⟨F2, Same.refl _, Same.refl _, fh, Newer.refl _ _, r.mono s2 hux⟩
    · rw [List.length_map, ← Paired.len h3]
      exact ⟨vs, (h2.mono s2).sq fh, Nat.le_refl _⟩
def intsF (lo : Int) (n : Nat) : List Int := (List.range n).map fun i : Nat => lo + (i : Int)
theorem intsF_get {lo : Int} {n i : Nat} {x : Int} (h : (intsF lo n)[i]? = some x) : i < n ∧ x = lo + i := by
  unfold intsF at h
  rw [List.getElem?_map] at h
  obtain ⟨j, hj, e⟩ := Option.map_eq_some_iff.mp h
  rcases Nat.lt_or_ge i n with h | h
  · rw [List.getElem?_range h] at hj
    cases hj
    exact ⟨h, e.symm⟩
  · rw [List.getElem?_eq_none (by rw [List.length_range]; exact h)] at hj
    cases hj
theorem intsF_len (lo : Int) (n : Nat) : (intsF lo n).length = n := by
  unfold intsF
  rw [List.length_map, List.length_range]
theorem jok_r (lo : Int) (n : Nat) : JOk (Itr lo n) F ((intsF lo n).map (iz zI)) := fun F2 H2 s2 fh => ⟨fun i p hi => by
    obtain ⟨x, hx, rfl⟩ := get_izs hi
    obtain ⟨h1, rfl⟩ := intsF_get hx
    exact ⟨h1, fun y H3 ⟨e, hy⟩ => by
      subst e
      exact ⟨F2, Same.refl _, Same.refl _, fh, Newer.refl _ _, hy⟩⟩, by
    rw [List.length_map, intsF_len]
    exact Nat.le_refl _⟩
theorem wi_range {ta : TA} {K : List Vp → List Cel → Prop} (w : Wa fr Γ Θ ta fun ps Θ1 => ∃ n : Int, ps = [iz zI n] ∧ -(2 ^ 62) ≤ n ∧ n < 2 ^ 62 ∧ K ((intsF 0 n.toNat).map (iz zI)) Θ1) : Wi fr Γ Θ (iRng1 ta) K := fun σ F H ok env R q =>
  w σ F H ok env _ fun ps Θ1 ⟨n, e, b1, b2, k⟩ vs F1 H1 s1 ok1 hps => by
    subst e
    cases hps with
    | cons h1 hp => cases hp with
      | nil =>
        have h1 : _ = V.int n := h1
        subst h1
        exact ⟨n, rfl, b1, b2, q _ Θ1 k _ F1 H1 s1 ok1 (jok_r 0 n.toNat)⟩
theorem wi_range2 {ta : TA} {K : List Vp → List Cel → Prop} (w : Wa fr Γ Θ ta fun ps Θ1 => ∃ m n : Int, ps = [iz zI m, iz zI n] ∧ (-(2 ^ 62) ≤ m ∧ m < 2 ^ 62 ∧ -(2 ^ 62) ≤ n ∧ n < 2 ^ 62) ∧ K ((intsF m (n - m).toNat).map (iz zI)) Θ1) : Wi fr Γ Θ (iRng2 ta) K := fun σ F H ok env R q =>
  w σ F H ok env _ fun ps Θ1 ⟨m, n, e, b, k⟩ vs F1 H1 s1 ok1 hps => by
    subst e
    cases hps with
    | cons h1 hp => cases hp with
      | cons h2 hp => cases hp with
        | nil =>
          have h1 : _ = V.int m := h1
          have h2 : _ = V.int n := h2
          subst h1 h2
          exact ⟨m, n, rfl, b, q _ Θ1 k _ F1 H1 s1 ok1 (jok_r m _)⟩
/-- a finer start: more is frozen -/
structure FrLe (fr fr' : Fr) : Prop where
  h : fr'.H0 = fr.H0
  b : fr'.B = fr.B
  f : Same fr.F0 fr'.F0
  n : ∀ a o, fr'.F0 a = some o → Nwr fr.F0 fr.H0 a o
theorem OkF.le {fr' : Fr} (ok : OkF fr' Θ F H) (l : FrLe fr fr') : OkF fr Θ F H := by
  obtain ⟨a1, a2, a3, a4⟩ := l
  refine ⟨ok.fh, a3.trans ok.f0, fun a o h => ?_, fun a o hB h => ok.h0 a o (by rw [a2]; exact hB) (by rw [a1]; exact h), fun a o h => ok.al a o (by rw [a1]; exact h), ok.nd, fun c hc => ?_⟩
  · rcases ok.nw a o h with ⟨o', h'⟩ | h' | h'
    · have e := ok.f0 a o' h'
      rw [h] at e
      cases e
      exact a4 a o h'
    · exact .inr (.inl (by rw [a1] at h'; exact h'))
    · exact .inr (.inr h')
  · have := ok.ce c hc
    rw [a1, a2] at this
    exact this
theorem OkF.fine {F1 H1 : Hp} {Θ1 : List Cel} (ok1 : OkF fr Θ1 F1 H1) : FrLe fr ⟨F1, fr.H0, fr.B⟩ := ⟨rfl, rfl, ok1.f0, ok1.nw⟩
theorem FrLe.trans {fr1 fr2 : Fr} (x : FrLe fr fr1) (y : FrLe fr1 fr2) : FrLe fr fr2 := ⟨y.h.trans x.h, y.b.trans x.b, x.f.trans y.f, fun a o h => (y.n a o h).elim (fun ⟨o', h'⟩ => by
  have e := y.f a o' h'
  rw [h] at e
  cases e
  exact x.n a o h') fun h' => h'.elim (fun h' => .inr (.inl (by rw [x.h] at h'; exact h'))) fun h' => .inr (.inr h')⟩
theorem Kn.fine {fr' : Fr} {P : L2.St → Hp → Prop} (k : Kn fr Γ Θ P) (l : FrLe fr fr') : Kn fr' Γ Θ P := fun σ F H ok env => k σ F H (ok.le l) env
theorem Rt.fine {fr' : Fr} {rt : VK} {p : Vp} (k : Rt fr Θ rt p) (l : FrLe fr fr') : Rt fr' Θ rt p := fun v F H ok h => k v F H (ok.le l) h
theorem kn_for {wi : TI} {g : TG} {tb : TS} {D : Ends} (w : Wi fr Γ Θ wi fun its Θ1 => ∃ I : Nat → Gam → List Cel → Prop, (∃ Γ0, GLe Γ Γ0 ∧ I 0 Γ0 Θ1) ∧
    (∀ fr', FrLe fr fr' → ∀ i p Γ1 Θ2, its[i]? = some p → I i Γ1 Θ2 → ∃ vs Γ2, TgR g vs p Γ1 Γ2 ∧ Kn fr' Γ2 Θ2 (tb { D with nx := Mid fr' (I (i + 1)), ct := Mid fr' (I (i + 1)), bk := D.nx })) ∧ ∀ Γ1 Θ2, I its.length Γ1 Θ2 → Kn fr Γ1 Θ2 D.nx) : Kn fr Γ Θ (tFor wi g tb D) := fun σ F H ok env =>
  w σ F H ok env _ fun its Θ1 ⟨I, ⟨Γ0, l0, i0⟩, hs, hd⟩ J F1 H1 s1 ok1 jok => by
    have le := ok1.fine
    have up : ∀ {Θ2 : List Cel} {F2 H2 : Hp}, OkF fr Θ2 F2 H2 → Same F1 F2 → OkF ⟨F1, fr.H0, fr.B⟩ Θ2 F2 H2 := fun ok s => ⟨ok.fh, s, fun a o h => (ok.nw a o h).elim (fun ⟨o', h'⟩ => .inl ⟨o', ok1.f0 _ _ h'⟩) .inr, ok.h0, ok.al, ok.nd, ok.ce⟩
    refine ⟨fun i m σ' H' => m = its.length - i ∧ i ≤ its.length ∧ Mid ⟨F1, fr.H0, fr.B⟩ (I i) σ' H', ⟨its.length, by simp, Nat.zero_le _, Γ0, Θ1, F1, i0, up ok1 (Same.refl _), (env.mono s1).le l0⟩, ?_⟩
    rintro i m σ' H' ⟨rfl, hi, Γ2, Θ2, F2, hI, ok2, env2⟩
    obtain ⟨j1, j2⟩ := jok F2 H' ok2.f0 ok2.fh
    by_cases hlt : i < its.length
    · obtain ⟨jg, jy⟩ := j1 i its[i] (List.getElem?_eq_getElem hlt)
      refine .inr ⟨jg, Mid ⟨F1, fr.H0, fr.B⟩ (I (i + 1)), fun σ3 H3 p => ⟨its.length - (i + 1), by omega, rfl, hlt, p⟩, fun x H3 y => ?_⟩
      obtain ⟨F3, e1, e2, e3, e4, e5⟩ := jy x H3 y
      have ok3 := ok2.grow e2 e1 e3 e4
      obtain ⟨vs, Γ4, tg, kn⟩ := hs _ le i _ Γ2 Θ2 (List.getElem?_eq_getElem hlt) hI
      exact tg σ' F3 H3 x ok3.fh (env2.mono e1) e5 _ fun σ4 env4 _ => kn σ4 F3 H3 ok3 env4
    · have e : i = its.length := by omega
      subst e
      exact .inl ⟨j2, hd Γ2 Θ2 hI σ' F2 H' (ok2.le le) env2⟩
/-- an invariant by a state s: the names hold G s, the cells T s -/
def InvS {S : Type} (G : S → Gam) (T : S → List Cel) (P : Nat → S → Prop) (i : Nat) (Γ : Gam) (Θ : List Cel) : Prop := ∃ s, P i s ∧ Γ = G s ∧ Θ = T s
theorem kn_back {S : Type} {G : S → Gam} {T : S → List Cel} {P : Nat → S → Prop} {i : Nat} (s : S) (l : GLe Γ (G s)) (h : P i s) (e : Θ = T s) : Kn fr Γ Θ (Mid fr (InvS G T P i)) := kn_mid ⟨G s, l, s, h, rfl, e⟩
/-- for x in a walked thing, the entries xs known -/
theorem kn_forS {α S : Type} {r : Rep α} {xs : List α} {wi : TI} {g : TG} {tb : TS} {D : Ends} (G : S → Gam) (T : S → List Cel) (P : Nat → S → Prop) (s0 : S) {vs : List Nat} {Γ2 : α → S → Gam} (it : Wi fr Γ Θ wi fun its Θ1 => its = xs.map (iz r) ∧ Θ1 = T s0) (l0 : GLe Γ (G s0)) (h0 : P 0 s0)
    (tg : ∀ x s, TgR g vs (iz r x) (G s) (Γ2 x s))
    (hs : ∀ fr', FrLe fr fr' → ∀ i x s, xs[i]? = some x → P i s → Kn fr' (Γ2 x s) (T s) (tb { D with nx := Mid fr' (InvS G T P (i + 1)), ct := Mid fr' (InvS G T P (i + 1)), bk := D.nx }))
    (hd : ∀ s, P xs.length s → Kn fr (G s) (T s) D.nx) : Kn fr Γ Θ (tFor wi g tb D) := by
  refine kn_for fun σ F H ok env R q => it σ F H ok env R fun its Θ1 ⟨e1, e2⟩ => q its Θ1 ?_
  subst e1 e2
  refine ⟨InvS G T P, ⟨G s0, l0, s0, h0, rfl, rfl⟩, fun fr' le i p Γ1 Θ2 hi ⟨s, hP, eg, et⟩ => ?_, fun Γ1 Θ2 ⟨s, hP, eg, et⟩ => ?_⟩
  · subst eg et
    obtain ⟨x, hx, rfl⟩ := get_izs hi
    exact ⟨vs, _, tg x s, hs fr' le i x s hx hP⟩
  · subst eg et
    rw [List.length_map] at hP
    exact hd s hP
def wipeG (Γ : Gam) : List Nat → Gam
  | [] => Γ
  | v :: vs => (wipeG Γ vs).set v none
theorem EnvF.wipe {σ : L2.St} (h : EnvF Γ σ F) : ∀ vs, EnvF (wipeG Γ vs) (L2.wipe σ vs) F
  | [] => h
  | v :: vs => (EnvF.wipe h vs).drop
theorem wipe_get (σ : L2.St) (j : Nat) : ∀ vs : List Nat, (L2.wipe σ vs)[j]? = if j ∈ vs ∧ j < σ.length then some none else σ[j]?
  | [] => by simp [L2.wipe]
  | v :: vs => by
    unfold L2.wipe
    rw [List.getElem?_set, wipe_get σ j vs, wipe_length]
    by_cases h : v = j
    · subst h
      by_cases h2 : v < σ.length
      · rw [if_pos rfl, if_pos h2, if_pos ⟨List.mem_cons_self .., h2⟩]
      · rw [if_pos rfl, if_neg h2, if_neg (fun q => h2 q.2), List.getElem?_eq_none (by omega)]
    · rw [if_neg h]
      by_cases h2 : j ∈ vs ∧ j < σ.length
      · rw [if_pos h2, if_pos ⟨List.mem_cons_of_mem _ h2.1, h2.2⟩]
      · rw [if_neg h2, if_neg (fun q => h2 ⟨(List.mem_cons.mp q.1).resolve_left (fun e => h e.symm), q.2⟩)]
theorem wipe_idem (σ : L2.St) (vs : List Nat) : L2.wipe (L2.wipe σ vs) vs = L2.wipe σ vs := by
  apply List.ext_getElem?
  intro j
  rw [wipe_get, wipe_length, wipe_get]
  split <;> rfl
/-- [e for x in xs if c]: each entry is found by its own way; R says what it may be -/
theorem we_lcR {α β : Type} {r : Rep α} {s : Rep β} {xs : List α} {pr : α → Bool} {R : α → β → Prop} {wi : TI} {g : TG} {tt : TT} {te : TE} {vs : List Nat} {Γ2 : α → Gam}
    (it : Wi fr Γ Θ wi fun its Θ1 => its = xs.map (iz r) ∧ Θ1 = Θ) (hl : xs.length ≤ 1000) (tg : ∀ x, TgR g vs (iz r x) (wipeG Γ vs) (Γ2 x)) (ht : ∀ x ∈ xs, ∀ c, Et fr (Γ2 x) (c :: Θ) tt (pr x))
    (he : ∀ x ∈ xs, pr x = true → ∀ c, We fr (Γ2 x) (c :: Θ) te fun q Θ' => Θ' = c :: Θ ∧ ∃ y, R x y ∧ q = iz s y) (k : ∀ ys, Paired R (xs.filter pr) ys → K (iz (zL s) ys) Θ) : We fr Γ Θ (tLc wi g tt te vs) K := fun σ F H ok env Q q => by
  refine it σ F H ok env _ fun its Θ1 ⟨e1, e2⟩ J F1 H1 s1 ok1 jok => ?_
  subst e1 e2
  intro D nD
  refine ⟨fun i m H' => m = xs.length - i ∧ i ≤ xs.length ∧ ∃ F2 ys, Same F1 F2 ∧ OkF fr (cL D s ys :: Θ1) F2 H' ∧ Paired R ((xs.take i).filter pr) ys, ⟨xs.length, by simp, Nat.zero_le _, F1, [], Same.refl _, ok1.mkOwn (c := cL D s []) nD rfl ⟨[], rfl, .nil⟩, .nil⟩, ?_⟩
  rintro i m H' ⟨rfl, hi, F2, ys, s2, ok2, py⟩
  obtain ⟨j1, j2⟩ := jok F2 H' s2 ok2.fh
  by_cases hlt : i < xs.length
  · have hx : xs[i]? = some xs[i] := List.getElem?_eq_getElem hlt
    generalize xs[i] = x at hx
    have hm := List.mem_of_getElem? hx
    obtain ⟨jg, jy⟩ := j1 i (iz r x) (by rw [List.getElem?_map, hx]; rfl)
    refine .inr ⟨jg, fun H3 => ∃ F3 ys, Same F1 F3 ∧ OkF fr (cL D s ys :: Θ1) F3 H3 ∧ Paired R ((xs.take (i + 1)).filter pr) ys, fun H3 p => ⟨xs.length - (i + 1), by omega, rfl, hlt, p⟩, fun v H3 y => ?_⟩
    obtain ⟨F3, e1, e2, e3, e4, e5⟩ := jy v H3 y
    have ok3 := ok2.grow e2 e1 e3 e4
    have s3 := s2.trans e1
    refine tg x (L2.wipe σ vs) F3 H3 v ok3.fh ((env.mono (s1.trans s3)).wipe vs) e5 _ fun σ2 env2 hw => ⟨?_, ?_⟩
    · rw [hw, wipe_idem]
    · have et : (xs.take (i + 1)).filter pr = (xs.take i).filter pr ++ if pr x = true then [x] else [] := by
        rw [take_more hx, List.filter_append, List.filter_cons]
        rfl
      refine ht x hm _ σ2 F3 H3 ok3 env2 _ fun b Θ2 ⟨e6, e7⟩ F4 H4 s4 ok4 => ?_
      subst e6 e7
      by_cases hb : pr x = true
      · rw [if_pos hb]
        rw [if_pos hb] at et
        refine he x hm hb _ σ2 F4 H4 ok4 (env2.mono s4) _ fun p Θ3 ⟨e8, y, hR, e9⟩ u F5 H5 s5 ok5 hp => ?_
        subst e8 e9
        obtain ⟨_, ⟨o, h2, acc, rfl, h4⟩, _⟩ := ok5.ce _ (List.mem_cons_self ..)
        have ok6 := ok5.mut (i := 0) (c := cL D s ys) (c' := cL D s (ys ++ [y])) (o := .lst (acc ++ [u])) rfl rfl rfl ⟨_, rfl, PySem.Paired.snoc h4 hp⟩
        refine ⟨acc, h2, ?_, F5, ys ++ [y], (s3.trans s4).trans s5, ok6, ?_⟩
        · rw [Paired.len h4, ← Paired.len py]
          have := List.length_filter_le pr (xs.take i)
          rw [List.length_take] at this
          exact small1000 (by omega)
        · rw [et]
          exact PySem.Paired.snoc py hR
      · rw [if_neg hb]
        rw [if_neg hb, List.append_nil] at et
        exact ⟨F4, ys, s3.trans s4, ok4, by rw [et]; exact py⟩
  · have e : i = xs.length := by omega
    subst e
    rw [List.take_length] at py
    obtain ⟨_, ⟨o, h2, acc, rfl, h4⟩, _⟩ := ok2.ce _ (List.mem_cons_self ..)
    have ok3 := ok2.frz (i := 0) (c := cL D s ys) rfl rfl h2
    have sD : Same F2 (upd F2 D (.lst acc)) := same_upd (ok2.ce _ (List.mem_cons_self ..)).1
    refine .inl ⟨by rw [List.length_map] at j2; exact j2, q _ _ (k ys py) _ _ H' ((s1.trans s2).trans sD) ok3 ⟨D, acc, rfl, upd_same, Paired.imp2 (fun _ _ h => s.mono sD h) h4⟩⟩
theorem paired_map {α β : Type} {f : α → β} : ∀ {xs : List α} {ys : List β}, Paired (fun x y => y = f x) xs ys → ys = xs.map f
  | _, _, .nil => rfl
  | _, _, .cons h r => by rw [h, paired_map r]; rfl
theorem we_lc {α β : Type} {r : Rep α} {s : Rep β} {xs : List α} {pr : α → Bool} {f : α → β} {wi : TI} {g : TG} {tt : TT} {te : TE} {vs : List Nat} {Γ2 : α → Gam}
    (it : Wi fr Γ Θ wi fun its Θ1 => its = xs.map (iz r) ∧ Θ1 = Θ) (hl : xs.length ≤ 1000) (tg : ∀ x, TgR g vs (iz r x) (wipeG Γ vs) (Γ2 x)) (ht : ∀ x ∈ xs, ∀ c, Et fr (Γ2 x) (c :: Θ) tt (pr x))
    (he : ∀ x ∈ xs, pr x = true → ∀ c, Ev fr (Γ2 x) (c :: Θ) te (iz s (f x))) (k : K (iz (zL s) ((xs.filter pr).map f)) Θ) : We fr Γ Θ (tLc wi g tt te vs) K :=
  we_lcR (R := fun x y => y = f x) it hl tg ht (fun x hx hp c => (he x hx hp c).imp fun p Θ' ⟨e1, e2⟩ => ⟨e2, f x, rfl, e1⟩) fun ys h => by
    rw [paired_map h]
    exact k
theorem wt_yes {K : Bool → List Cel → Prop} (k : K true Θ) : Wt fr Γ Θ tYes K := fun σ F H ok env Q q => q true Θ k F H (Same.refl F) ok
end
end L2
set_option Elab.async false
set_option linter.all false
set_option maxRecDepth 100000
set_option maxHeartbeats 4000000
namespace L2
open PySem PySem.Spec PyProof.Rows PySem.HErr
/-- an error: its class, its fields -/
structure Er where
  C : Addr
  fs : List (Str × Vp)
def FsOk (F : Hp) (fs : List (Str × Vp)) (us : List (Str × V)) : Prop := Paired (fun (x : Str × Vp) (y : Str × V) => x.1 = y.1 ∧ x.2.p F y.2) fs us
theorem FsOk.mono {F F' : Hp} {fs : List (Str × Vp)} {us : List (Str × V)} (h : FsOk F fs us) (e : Same F F') : FsOk F' fs us := Paired.imp2 (fun x _ ⟨h1, h2⟩ => ⟨h1, x.2.mono e h2⟩) h
theorem FsOk.look {F : Hp} {f : Str} {p : Vp} : ∀ {fs : List (Str × Vp)} {us : List (Str × V)}, FsOk F fs us → fs.lookup f = some p → ∃ v, us.lookup f = some v ∧ p.p F v
  | _, _, .nil, h => by cases h
  | (a, q) :: fs, (b, u) :: us, .cons ⟨h1, h2⟩ r, h => by
    have h1 : a = b := h1
    subst h1
    rw [List.lookup_cons] at h ⊢
    cases e : (f == a) with
    | true =>
      rw [e] at h
      cases h
      exact ⟨u, rfl, h2⟩
    | false =>
      rw [e] at h
      exact FsOk.look r h
def Kr (fr : Fr) (Γ : Gam) (Θ : List Cel) (W : WX) (e : Er) : Prop := ∀ σ F H, OkF fr Θ F H → EnvF Γ σ F → ∀ d us, F d = some (.xd us) → FsOk F e.fs us → W (.ref e.C) (some d) σ H
/-- what a def raises -/
def Rse (fr : Fr) (E : XK) (err : Er → Prop) : Prop := ∀ e, err e → ∀ Θ F H d us, OkF fr Θ F H → F d = some (.xd us) → FsOk F e.fs us → E (.ref e.C) (some d) H
/-- what a def returns -/
def Ret (fr : Fr) (Q : VK) (out : Vp → Prop) : Prop := ∀ p, out p → ∀ Θ, Rt fr Θ Q p
def Sps (fr : Fr) (Γ : Gam) (Θ : List Cel) (sp : Sp) (E : L2.St → XK) (ps : List Vp) (K : Vp → List Cel → Prop) : Prop := ∀ σ F H vs, OkF fr Θ F H → EnvF Γ σ F → Paired (fun (p : Vp) v => p.p F v) ps vs → ∀ Q, Kq fr F K Q → sp vs H Q (E σ)
section
variable {fr : Fr} {Γ Γ' : Gam} {Θ : List Cel} {F F' H H' : Hp} {K : Vp → List Cel → Prop} {Q : VK}
theorem Rse.fine {fr' : Fr} {E : XK} {err : Er → Prop} (h : Rse fr E err) (l : FrLe fr fr') : Rse fr' E err := fun e he Θ F H d us ok => h e he Θ F H d us (ok.le l)
theorem Ret.fine {fr' : Fr} {out : Vp → Prop} (h : Ret fr Q out) (l : FrLe fr fr') : Ret fr' Q out := fun p hp Θ => (h p hp Θ).fine l
theorem we_callE {sp : Sp} {E : XK} {t : TA} (w : Wa fr Γ Θ t fun ps Θ1 => Sps fr Γ Θ1 sp (fun _ => E) ps K) : We fr Γ Θ (tCall sp [] E t) K := fun σ F H ok env Q q =>
  w σ F H ok env _ fun ps Θ1 k vs F1 H1 s1 ok1 hps => by
    rw [List.append_nil]
    exact k σ F1 H1 vs ok1 (env.mono s1) hps Q (q.mono s1)
theorem we_callS {sp : Sp} {E : L2.St → XK} {t : TA} (w : Wa fr Γ Θ t fun ps Θ1 => Sps fr Γ Θ1 sp E ps K) : We fr Γ Θ (tCallS sp E t) K := fun σ F H ok env Q q =>
  w σ F H ok env _ fun ps Θ1 k vs F1 H1 s1 ok1 hps => k σ F1 H1 vs ok1 (env.mono s1) hps Q (q.mono s1)
/-- an instance of the class at C, m no field of its own -/
def InsP (fr : Fr) (Θ : List Cel) (p : Vp) (C : Addr) (m : Str) : Prop := ∀ F H v, OkF fr Θ F H → p.p F v → ∃ a dx fs, v = .ref a ∧ H a = some (.ins C dx fs) ∧ fs.lookup m = none
theorem we_met {C : Addr} {m : Str} {sp : Sp} {E : L2.St → XK} {ta : TE} {t : TA} (w : We fr Γ Θ ta fun p Θ1 => InsP fr Θ1 p C m ∧ Wa fr Γ Θ1 t fun ps Θ2 => Sps fr Γ Θ2 sp E (p :: ps) K) : We fr Γ Θ (tMetD C m sp E ta t) K := fun σ F H ok env Q q =>
  w σ F H ok env _ fun p Θ1 ⟨ki, k⟩ v F1 H1 s1 ok1 hp => by
    obtain ⟨a, dx, fs, rfl, h2, h3⟩ := ki F1 H1 v ok1 hp
    exact ⟨a, dx, fs, rfl, h2, h3, k σ F1 H1 ok1 (env.mono s1) _ fun ps Θ2 k2 vs F2 H2 s2 ok2 hps => k2 σ F2 H2 _ ok2 ((env.mono s1).mono s2) (.cons (p.mono s2 hp) hps) Q (q.mono (s1.trans s2))⟩
def Post (F H : Hp) (Q : VK) (out : Vp → Prop) : Prop := ∀ p, out p → ∀ v F' H', Same H H' → Same F F' → Same F' H' → Newer F H F' → p.p F' v → Q v H'
def PErs (F H : Hp) (E : XK) (err : Er → Prop) : Prop := ∀ e, err e → ∀ F' H' d us, Same H H' → Same F F' → Same F' H' → Newer F H F' → F' d = some (.xd us) → FsOk F' e.fs us → E (.ref e.C) (some d) H'
abbrev Pre := List Vp → (Vp → Prop) → (Er → Prop) → Prop
def spA (pre : Pre) : Sp := fun vs H Q E => ∃ F ps out err, Same F H ∧ Paired (fun (p : Vp) v => p.p F v) ps vs ∧ pre ps out err ∧ Post F H Q out ∧ PErs F H E err
theorem sps_A {pre : Pre} {E : L2.St → XK} {ps : List Vp} {out : Vp → Prop} {err : Er → Prop} (hp : pre ps out err) (k : ∀ p, out p → K p Θ) (x : ∀ e, err e → Kr fr Γ Θ (fun cls d σ H => E σ cls d H) e) : Sps fr Γ Θ (spA pre) E ps K := fun σ F H vs ok env hps Q q =>
  ⟨F, ps, out, err, ok.fh, hps, hp, fun p ho v F' H' hh ff fh nw h => q p Θ (k p ho) v F' H' ff (ok.grow hh ff fh nw) h,
    fun e he F' H' d us hh ff fh nw hd hf => x e he σ F' H' (ok.grow hh ff fh nw) (env.mono ff) d us hd hf⟩
/-- nothing is raised -/
def noErr : Er → Prop := fun _ => False
theorem OkF.post (ok : OkF ⟨F, H, []⟩ Θ F' H') : Same H H' ∧ Same F F' ∧ Same F' H' ∧ Newer F H F' := ⟨fun a o h => ok.h0 a o (by simp) h, ok.f0, ok.fh, ok.nw⟩
theorem Post.ret {out : Vp → Prop} (h : Post F H Q out) : Ret ⟨F, H, []⟩ Q out := fun p hp Θ v F' H' ok hv => by
  obtain ⟨a, b, c, d⟩ := ok.post
  exact h p hp v F' H' a b c d hv
theorem PErs.rse {E : XK} {err : Er → Prop} (h : PErs F H E err) : Rse ⟨F, H, []⟩ E err := fun e he Θ F' H' d us ok hd hf => by
  obtain ⟨a, b, c, n⟩ := ok.post
  exact h e he F' H' d us a b c n hd hf
def envOf (N : List Str) (ps : List Vp) : Gam := ps.map some ++ List.replicate (N.length - ps.length) none
theorem env_start {N : List Str} {ps : List Vp} {vs : List V} (h : Paired (fun (p : Vp) v => p.p F v) ps vs) : EnvF (envOf N ps) (start N vs) F := by
  unfold envOf start
  rw [Paired.len h]
  refine Paired.app ?_ ?_
  · induction h with
    | nil => exact .nil
    | cons a _ ih => exact .cons (fun p hp => by cases hp; exact ⟨_, rfl, a⟩) ih
  · have : ∀ n : Nat, Paired (fun (e : Option Vp) (s : Option V) => ∀ p, e = some p → ∃ v, s = some v ∧ p.p F v) (List.replicate n none) (List.replicate n none) := fun n => by
      induction n with
      | zero => exact .nil
      | succ n ih => exact .cons (fun p hp => by cases hp) ih
    exact this _
end
section
variable {P : Program} {w : World} {K : PySem.W.Frag} {mg : Str → Option Value} {base : Heap} {x m qual : Str} {C : Addr} {st : Stmt} {N ps : List Str} {k : Nat} {pre : Pre}
theorem Src.okA (F : Src K mg x st ps) (S : FnScope N ps (defScope st)) (len : ∀ qs out err, pre qs out err → qs.length = ps.length)
    (hbody : ∀ (f : Addr) (cdv : Value) (A : Around) (outer : List Env) (s : Shared) (H : Hp) (E : XK) (qs : List Vp) (out : Vp → Prop) (err : Er → Prop), Room k (A.deeper (envOfC x (defScope st) s.heap.objs.size f cdv)) → pre qs out err →
      ∃ t, PSs (cxOf CX0 P w K mg base N x (defScope st) f cdv A outer s H E).nox (defBody st) t ∧ ∀ fr Q, Ret fr Q out → Kn fr (envOf N qs) [] (t { nx := fun _ H' => Q .non H', rt := Q })) : Def P w K mg base CX0 (k + 1) x ps (spA pre) := by
  refine F.ok S (fun vs H Q E h => ?_) (fun f cdv A outer s H vs Q E hr h => ?_)
  · obtain ⟨F, qs, out, err, _, h2, h3, _⟩ := h
    rw [← Paired.len h2]
    exact len _ _ _ h3
  · obtain ⟨F, qs, out, err, h1, h2, h3, h4, h5⟩ := h
    obtain ⟨t, ht, hk⟩ := hbody f cdv A outer s H E qs out err hr h3
    exact ⟨t, ht, hk _ Q h4.ret _ F H (OkF.start h1) (env_start h2)⟩
theorem Src.okAX (F : Src K mg x st ps) (S : FnScope N ps (defScope st)) (len : ∀ qs out err, pre qs out err → qs.length = ps.length)
    (hbody : ∀ (f : Addr) (cdv : Value) (A : Around) (outer : List Env) (s : Shared) (H : Hp) (E : XK) (qs : List Vp) (out : Vp → Prop) (err : Er → Prop), Room k (A.deeper (envOfC x (defScope st) s.heap.objs.size f cdv)) → pre qs out err →
      ∃ t, PSs (cxOf (L2.CX P w) P w K mg base N x (defScope st) f cdv A outer s H E) (defBody st) t ∧ ∀ fr Q, Ret fr Q out → Rse fr E err → Kn fr (envOf N qs) [] (t { nx := fun _ H' => Q .non H', rt := Q })) : Def P w K mg base (L2.CX P w) (k + 1) x ps (spA pre) := by
  refine F.okX S (fun vs H Q E h => ?_) (fun f cdv A outer s H vs Q E hr h => ?_)
  · obtain ⟨F, qs, out, err, _, h2, h3, _⟩ := h
    rw [← Paired.len h2]
    exact len _ _ _ h3
  · obtain ⟨F, qs, out, err, h1, h2, h3, h4, h5⟩ := h
    obtain ⟨t, ht, hk⟩ := hbody f cdv A outer s H E qs out err hr h3
    exact ⟨t, ht, hk _ Q h4.ret h5.rse _ F H (OkF.start h1) (env_start h2)⟩
theorem SrcM.okA (F : SrcM K C m qual st ps) (S : FnScope N ps (defScope st)) (len : ∀ qs out err, pre qs out err → qs.length = ps.length)
    (hbody : ∀ (f : Addr) (cdv : Value) (A : Around) (outer : List Env) (s : Shared) (H : Hp) (E : XK) (qs : List Vp) (out : Vp → Prop) (err : Er → Prop), Room k (A.deeper (envOfC qual (defScope st) s.heap.objs.size f cdv)) → pre qs out err →
      ∃ t, PSs (cxOf CX0 P w K mg base N qual (defScope st) f cdv A outer s H E).nox (defBody st) t ∧ ∀ fr Q, Ret fr Q out → Kn fr (envOf N qs) [] (t { nx := fun _ H' => Q .non H', rt := Q })) : DefM P w K mg base CX0 (k + 1) C m ps (spA pre) := by
  refine F.ok S (fun vs H Q E h => ?_) (fun f cdv A outer s H vs Q E hr h => ?_)
  · obtain ⟨F, qs, out, err, _, h2, h3, _⟩ := h
    rw [← Paired.len h2]
    exact len _ _ _ h3
  · obtain ⟨F, qs, out, err, h1, h2, h3, h4, h5⟩ := h
    obtain ⟨t, ht, hk⟩ := hbody f cdv A outer s H E qs out err hr h3
    exact ⟨t, ht, hk _ Q h4.ret _ F H (OkF.start h1) (env_start h2)⟩
theorem SrcM.okAX (F : SrcM K C m qual st ps) (S : FnScope N ps (defScope st)) (len : ∀ qs out err, pre qs out err → qs.length = ps.length)
    (hbody : ∀ (f : Addr) (cdv : Value) (A : Around) (outer : List Env) (s : Shared) (H : Hp) (E : XK) (qs : List Vp) (out : Vp → Prop) (err : Er → Prop), Room k (A.deeper (envOfC qual (defScope st) s.heap.objs.size f cdv)) → pre qs out err →
      ∃ t, PSs (cxOf (L2.CX P w) P w K mg base N qual (defScope st) f cdv A outer s H E) (defBody st) t ∧ ∀ fr Q, Ret fr Q out → Rse fr E err → Kn fr (envOf N qs) [] (t { nx := fun _ H' => Q .non H', rt := Q })) : DefM P w K mg base (L2.CX P w) (k + 1) C m ps (spA pre) := by
  refine F.okX S (fun vs H Q E h => ?_) (fun f cdv A outer s H vs Q E hr h => ?_)
  · obtain ⟨F, qs, out, err, _, h2, h3, _⟩ := h
    rw [← Paired.len h2]
    exact len _ _ _ h3
  · obtain ⟨F, qs, out, err, h1, h2, h3, h4, h5⟩ := h
    obtain ⟨t, ht, hk⟩ := hbody f cdv A outer s H E qs out err hr h3
    exact ⟨t, ht, hk _ Q h4.ret h5.rse _ F H (OkF.start h1) (env_start h2)⟩
end
section
variable {fr : Fr} {Γ Γ' : Gam} {Θ : List Cel} {F F' H H' : Hp} {K : Vp → List Cel → Prop} {Q : VK}
theorem kr_E {E : XK} {err : Er → Prop} {e : Er} (h : Rse fr E err) (he : err e) : Kr fr Γ Θ (fun cls d _ H => E cls d H) e := fun σ F H ok env d us hd hf => h e he Θ F H d us ok hd hf
theorem zip_ok {fs : List Str} {ps : List Vp} {vs : List V} (h : Paired (fun (p : Vp) v => p.p F v) ps vs) : ∀ {fs : List Str}, Paired (fun (x : Str × Vp) (y : Str × V) => x.1 = y.1 ∧ x.2.p F y.2) (fs.zip ps) (fs.zip vs) := fun {fs} => by
  induction h generalizing fs with
  | nil => rw [List.zip_nil_right, List.zip_nil_right]; exact .nil
  | cons a _ ih => cases fs with
    | nil => exact .nil
    | cons f fs => exact .cons ⟨rfl, a⟩ ih
theorem Paired.rev {α β : Type} {R : α → β → Prop} {l : List α} {m : List β} (h : Paired R l m) : Paired R l.reverse m.reverse := by
  induction h with
  | nil => exact .nil
  | cons a _ ih => rw [List.reverse_cons, List.reverse_cons]; exact PySem.Paired.snoc ih a
theorem kn_raise {tm : Bool} {C : Addr} {fs : List Str} {W : WX} {ta : TA} {D : Ends} (w : Wa fr Γ Θ ta fun ps Θ1 => ps.length = fs.length ∧ (tm = true → ∃ z r, ps = iz zS z :: r ∧ z.length ≤ 1000) ∧ Kr fr Γ Θ1 W ⟨C, (fs.zip ps).reverse⟩) : Kn fr Γ Θ (tRaiseE tm C fs W ta D) := fun σ F H ok env =>
  w σ F H ok env _ fun ps Θ1 ⟨hl, ht, k⟩ vs F1 H1 s1 ok1 hps => by
    refine ⟨by rw [← Paired.len hps]; exact hl, fun h => ?_, fun d nd => ?_⟩
    · obtain ⟨z, r, e, hz⟩ := ht h
      subst e
      cases hps with
      | cons a b => exact ⟨z, _, by rw [a.1], hz⟩
    · have s2 := ok1.sameF (o := .xd (fs.zip vs).reverse) nd
      exact k σ _ _ (ok1.new nd) ((env.mono s1).mono s2) d _ upd_same (Paired.rev (zip_ok (fs := fs) (ps_mono s2 hps)))
def FldR (Kf : PySem.W.Frag) (f : Str) (p q : Vp) : Prop := ∀ F v, p.p F v → ∃ a C dx fs u, v = .ref a ∧ F a = some (.ins C dx fs) ∧ Cls Kf C ∧ NoAttr Kf C f ∧ fs.lookup f = some u ∧ q.p F u
/-- the field f of p is q -/
def FldP (fr : Fr) (Θ : List Cel) (Kf : PySem.W.Frag) (f : Str) (p q : Vp) : Prop := ∀ F H v, OkF fr Θ F H → p.p F v → ∃ a C dx fs u, v = .ref a ∧ H a = some (.ins C dx fs) ∧ Cls Kf C ∧ NoAttr Kf C f ∧ fs.lookup f = some u ∧ q.p F u
theorem FldR.p {Kf : PySem.W.Frag} {f : Str} {p q : Vp} (h : FldR Kf f p q) : FldP fr Θ Kf f p q := fun F H v ok hv => by
  obtain ⟨a, C, dx, fs, u, h1, h2, h3, h4, h5, h6⟩ := h F v hv
  exact ⟨a, C, dx, fs, u, h1, ok.fh _ _ h2, h3, h4, h5, h6⟩
theorem we_fld {Kf : PySem.W.Frag} {f : Str} {ta : TE} (w : We fr Γ Θ ta fun p Θ1 => ∃ q, FldP fr Θ1 Kf f p q ∧ K q Θ1) : We fr Γ Θ (tFld Kf ta f) K := fun σ F H ok env Q k =>
  w σ F H ok env _ fun p Θ1 ⟨q, hf, kk⟩ v F1 H1 s1 ok1 hp => by
    obtain ⟨a, C, dx, fs, u, h1, h2, h3, h4, h5, h6⟩ := hf F1 H1 v ok1 hp
    exact ⟨a, C, dx, fs, u, h1, h2, h3, h4, h5, k q Θ1 kk u F1 H1 s1 ok1 h6⟩
theorem ty_cell {α : Type} {r : Rep α} {xs : List α} {a : Addr} {Kf : PySem.W.Frag} (hc : cL a r xs ∈ Θ) : ∀ F H v, OkF fr Θ F H → (zAt a).p F v → tyV Kf "list" v H := fun F H v ok hv => by
  have hv : v = .ref a := hv
  subst hv
  obtain ⟨_, ⟨o, h2, vs, rfl, h4⟩, _⟩ := ok.ce _ hc
  exact .inl ⟨rfl, vs, SqL.of h2⟩
theorem mts_append {α : Type} {r : Rep α} {xs : List α} {x : α} {a : Addr} {j : Nat} (hj : Θ[j]? = some (cL a r xs)) (hl : xs.length < 1000) (k : K zNon (Θ.set j (cL a r (xs ++ [x])))) : Mts fr Θ rAppend (zAt a) [iz r x] K := fun F H v vs ok hv hps Q q => by
  have hv : v = .ref a := hv
  subst hv
  obtain ⟨_, ⟨o, h2, us, rfl, h4⟩, _⟩ := ok.ce _ (List.mem_of_getElem? hj)
  cases hps with
  | cons h1 hp => cases hp with
    | nil => exact ⟨a, us, _, rfl, rfl, h2, by rw [Paired.len h4]; exact small1000 (Nat.le_of_lt hl), q _ _ k _ F _ (Same.refl F) (ok.mut hj rfl rfl ⟨_, rfl, PySem.Paired.snoc h4 h1⟩) rfl⟩
/-- xs.append(e) -/
theorem kn_append {Kf : PySem.W.Frag} {α : Type} {r : Rep α} {xs : List α} {a : Addr} {i : Nat} {te : TE} {D : Ends} (hi : Γ[i]? = some (some (zAt a))) (hc : cL a r xs ∈ Θ)
    (w : We fr Γ Θ te fun p Θ1 => ∃ x j, p = iz r x ∧ Θ1[j]? = some (cL a r xs) ∧ xs.length < 1000 ∧ Kn fr Γ (Θ1.set j (cL a r (xs ++ [x]))) D.nx) : Kn fr Γ Θ (tDrop (tBM Kf "list" rAppend (tVar i) (tCons te tNil)) D) :=
  kn_drop (we_bm (we_var hi ⟨ty_cell hc, wa_cons (w.imp fun p Θ1 ⟨x, j, e, hj, hl, k⟩ => wa_nil (by
    subst e
    exact mts_append hj hl k))⟩))
class Dat {α : Type} (r : Rep α) where
  enc : α → PyData
  dep : Nat
  dp : ∀ {Kf : PySem.W.Frag} {F : Hp} {v : V} {x : α}, r.p F v x → Dp Kf F v (enc x)
  ok : ∀ {F : Hp} {v : V} {x : α}, r.p F v x → nb (enc x) = true
  dl : ∀ x : α, (enc x).depth ≤ dep
  inj : ∀ {x y : α}, enc x = enc y → x = y
instance : Dat zI := ⟨PyData.int, 0, fun h => by cases (show _ = V.int _ from h); exact .int _, fun _ => rfl, fun _ => by simp [PyData.depth], fun h => PyData.int.inj h⟩
instance : Dat zS := ⟨PyData.str, 0, fun h => by cases h.1; exact .str _, fun h => h.2.ok, fun _ => by simp [PyData.depth], fun h => PyData.str.inj h⟩
theorem map_inj' {α β : Type} {f : α → β} (hf : ∀ x y, f x = f y → x = y) : ∀ {l m : List α}, l.map f = m.map f → l = m
  | [], [], _ => rfl
  | [], _ :: _, h => by cases h
  | _ :: _, [], h => by cases h
  | a :: l, b :: m, h => by
    rw [List.map_cons, List.map_cons, List.cons.injEq] at h
    rw [hf _ _ h.1, map_inj' hf h.2]
theorem dat_all {α : Type} {r : Rep α} [d : Dat r] {Kf : PySem.W.Frag} {vs : List V} {xs : List α} (h : PVs r F vs xs) : DpAll Kf F vs (xs.map d.enc) := by
  induction h with
  | nil => exact .nil
  | cons a _ ih => exact .cons (d.dp a) ih
theorem dat_nb {α : Type} {r : Rep α} [d : Dat r] {vs : List V} {xs : List α} (h : PVs r F vs xs) : nbAll (xs.map d.enc) = true := by
  induction h with
  | nil => rfl
  | cons a _ ih => show (nb _ && nbAll _) = true; rw [d.ok a, ih]; rfl
theorem dat_dep {α : Type} {r : Rep α} [d : Dat r] (xs : List α) : PyData.depthAll (xs.map d.enc) ≤ d.dep := depthAll_le fun y hy => by
  obtain ⟨x, _, rfl⟩ := List.mem_map.mp hy
  exact d.dl x
instance {α : Type} {r : Rep α} [d : Dat r] : Dat (zL r) := ⟨fun xs => .list (xs.map d.enc), d.dep + 1, fun ⟨a, vs, h1, h2, h3⟩ => by subst h1; exact .lst (SqL.of h2) (dat_all h3), fun ⟨a, vs, h1, h2, h3⟩ => dat_nb h3, fun xs => by
  have := dat_dep (r := r) xs
  simp only [PyData.depth]
  omega, fun h => map_inj' (fun _ _ => d.inj) (PyData.list.inj h)⟩
instance {α : Type} [TNar α] {r : Rep α} [d : Dat r] : Dat (zT r) := ⟨fun xs => .tuple (xs.map d.enc), d.dep + 1, fun ⟨a, vs, h1, h2, h3⟩ => by subst h1; exact .tup (h2.sq (Same.refl _)) (dat_all h3), fun ⟨a, vs, h1, h2, h3⟩ => dat_nb h3, fun xs => by
  have := dat_dep (r := r) xs
  simp only [PyData.depth]
  omega, fun h => map_inj' (fun _ _ => d.inj) (PyData.tuple.inj h)⟩
instance {α β : Type} {r : Rep α} {s : Rep β} [d : Dat r] [e : Dat s] : Dat (z2 r s) := ⟨fun x => .tuple [d.enc x.1, e.enc x.2], d.dep + e.dep + 1, fun ⟨a, u, w, h1, h2, h3, h4⟩ => by subst h1; exact .tup (SqT.of h2) (.cons (d.dp h3) (.cons (e.dp h4) .nil)),
  fun ⟨a, u, w, h1, h2, h3, h4⟩ => by show (nb _ && (nb _ && true)) = true; rw [d.ok h3, e.ok h4]; rfl, fun x => by
    have h1 := d.dl x.1
    have h2 := e.dl x.2
    simp only [PyData.depth, PyData.depthAll]
    omega, fun {x y} h => by
    have h := PyData.tuple.inj h
    rw [List.cons.injEq, List.cons.injEq] at h
    exact Prod.ext (d.inj h.1) (e.inj h.2.1)⟩
instance {α β γ : Type} {r : Rep α} {s : Rep β} {t : Rep γ} [d : Dat r] [e : Dat s] [f : Dat t] : Dat (z3 r s t) := ⟨fun x => .tuple [d.enc x.1, e.enc x.2.1, f.enc x.2.2], d.dep + e.dep + f.dep + 1, fun ⟨a, u, w, z, h1, h2, h3, h4, h5⟩ => by subst h1; exact .tup (SqT.of h2) (.cons (d.dp h3) (.cons (e.dp h4) (.cons (f.dp h5) .nil))),
  fun ⟨a, u, w, z, h1, h2, h3, h4, h5⟩ => by show (nb _ && (nb _ && (nb _ && true))) = true; rw [d.ok h3, e.ok h4, f.ok h5]; rfl, fun x => by
    have h1 := d.dl x.1
    have h2 := e.dl x.2.1
    have h3 := f.dl x.2.2
    simp only [PyData.depth, PyData.depthAll]
    omega, fun {x y} h => by
    have h := PyData.tuple.inj h
    rw [List.cons.injEq, List.cons.injEq, List.cons.injEq] at h
    exact Prod.ext (d.inj h.1) (Prod.ext (e.inj h.2.1) (f.inj h.2.2.1))⟩
theorem dat_eqv {α : Type} [DecidableEq α] {r : Rep α} [d : Dat r] {v w : V} {x y : α} (hv : r.p F v x) (hw : r.p F w y) : PyData.eqv (d.enc x) (d.enc y) = decide (x = y) := by
  have h := eqv_nb (d.enc x) (d.enc y) (d.ok hv) (d.ok hw)
  by_cases e : x = y
  · rw [decide_eq_true e, h, e]
  · rw [decide_eq_false e]
    cases q : PyData.eqv (d.enc x) (d.enc y) with
    | false => rfl
    | true => exact absurd (d.inj (h.mp q)) e
theorem Dp.up {Kf : PySem.W.Frag} {v : V} {d : PyData} (h : Dp Kf F v d) (e : Same F H) : Dp Kf H v d := Dp.keep e d v h
theorem ops_eqD {Kf : PySem.W.Frag} {α : Type} [DecidableEq α] {r : Rep α} [d : Dat r] {x y : α} (hd : d.dep ≤ 64) (k : K (iz zB (decide (x = y))) Θ) : Ops fr Θ (rEqD Kf) (iz r x) (iz r y) K := fun F H v w ok hv hw Q q => by
  refine ⟨d.enc x, d.enc y, (d.dp hv).up ok.fh, (d.dp hw).up ok.fh, shaped_of (d.ok hv) (Nat.le_trans (d.dl x) hd), shaped_of (d.ok hw) (Nat.le_trans (d.dl y) hd), ?_⟩
  rw [dat_eqv (r := r) hv hw]
  exact q.go k ok rfl
theorem ops_neD {Kf : PySem.W.Frag} {α : Type} [DecidableEq α] {r : Rep α} [d : Dat r] {x y : α} (hd : d.dep ≤ 64) (k : K (iz zB (!decide (x = y))) Θ) : Ops fr Θ (rNeD Kf) (iz r x) (iz r y) K := fun F H v w ok hv hw Q q => by
  refine ⟨d.enc x, d.enc y, (d.dp hv).up ok.fh, (d.dp hw).up ok.fh, shaped_of (d.ok hv) (Nat.le_trans (d.dl x) hd), shaped_of (d.ok hw) (Nat.le_trans (d.dl y) hd), ?_⟩
  rw [dat_eqv (r := r) hv hw]
  exact q.go k ok rfl
end
end L2
set_option Elab.async false
set_option linter.all false
set_option maxRecDepth 100000
set_option maxHeartbeats 4000000
namespace L2
open PySem PySem.Spec PyProof.Rows PySem.HErr
def KVs {α : Type} (r : Rep α) (F : Hp) (kvs : List (Key × V)) (rows : List (Str × α)) : Prop := Paired (fun (kv : Key × V) (x : Str × α) => kv.1 = Sum.inr x.1 ∧ r.p F kv.2 x.2) kvs rows
theorem KVs.mono {α : Type} {r : Rep α} {F F' : Hp} {kvs : List (Key × V)} {rows : List (Str × α)} (h : KVs r F kvs rows) (e : Same F F') : KVs r F' kvs rows := Paired.imp2 (fun _ _ ⟨h1, h2⟩ => ⟨h1, r.mono e h2⟩) h
/-- a dict from texts, frozen -/
def zD {α : Type} (r : Rep α) : Rep (List (Str × α)) := ⟨fun F v rows => ∃ a kvs, v = .ref a ∧ F a = some (.dK kvs) ∧ KVs r F kvs rows, fun e ⟨a, kvs, h1, h2, h3⟩ => ⟨a, kvs, h1, e _ _ h2, h3.mono e⟩⟩
/-- a dict from texts, one's own -/
def cD {α : Type} (a : Addr) (r : Rep α) (rows : List (Str × α)) : Cel := ⟨a, true, fun F o => ∃ kvs, o = .dK kvs ∧ KVs r F kvs rows, fun e ⟨kvs, h1, h2⟩ => ⟨kvs, h1, h2.mono e⟩, fun h e => by subst e; simp at h⟩
/-- the value by a key -/
def getR {α : Type} (rows : List (Str × α)) (n : Str) : Option α := (rows.find? fun x => decide (x.1 = n)).map (·.2)
theorem getR_mem {α : Type} {rows : List (Str × α)} {n : Str} {x : α} (h : getR rows n = some x) : (n, x) ∈ rows := by
  unfold getR at h
  obtain ⟨y, hy, e⟩ := Option.map_eq_some_iff.mp h
  have h1 := List.mem_of_find?_eq_some hy
  have h2 : decide (y.1 = n) = true := List.find?_some (p := fun (x : Str × α) => decide (x.1 = n)) hy
  have h2 := of_decide_eq_true h2
  subst h2 e
  exact h1
theorem getR_none {α : Type} {rows : List (Str × α)} {n : Str} : getR rows n = none ↔ n ∉ rows.map (·.1) := by
  unfold getR
  rw [Option.map_eq_none_iff, List.find?_eq_none]
  constructor
  · intro h q
    obtain ⟨y, hy, e⟩ := List.mem_map.mp q
    exact h y hy (by simp [e])
  · intro h y hy q
    exact h (List.mem_map.mpr ⟨y, hy, of_decide_eq_true q⟩)
theorem getR_nodup {α : Type} {rows : List (Str × α)} (hn : (rows.map (·.1)).Nodup) {n : Str} {x : α} (h : (n, x) ∈ rows) : getR rows n = some x := by
  cases e : getR rows n with
  | none => exact absurd (List.mem_map.mpr ⟨_, h, rfl⟩) (getR_none.mp e)
  | some y =>
    have h2 := getR_mem e
    have : ∀ {l : List (Str × α)}, (l.map (·.1)).Nodup → (n, x) ∈ l → (n, y) ∈ l → y = x := by
      intro l
      induction l with
      | nil => intro _ h; cases h
      | cons a l ih =>
        intro hn h1 h2
        rw [List.map_cons, List.nodup_cons] at hn
        rcases List.mem_cons.mp h1 with h1 | h1
        · rcases List.mem_cons.mp h2 with h2 | h2
          · rw [← h1] at h2
            exact (Prod.mk.inj h2).2
          · exact absurd (List.mem_map.mpr ⟨_, h2, by rw [← h1]⟩) hn.1
        · rcases List.mem_cons.mp h2 with h2 | h2
          · exact absurd (List.mem_map.mpr ⟨_, h1, by rw [← h2]⟩) hn.1
          · exact ih hn.2 h1 h2
    rw [this hn h h2]
section
variable {fr : Fr} {Γ Γ' : Gam} {Θ : List Cel} {F F' H H' : Hp} {K : Vp → List Cel → Prop} {Q : VK}
theorem KVs.val {α : Type} {r : Rep α} {n : Str} : ∀ {kvs : List (Key × V)} {rows : List (Str × α)}, KVs r F kvs rows → (∀ x, getR rows n = some x → ∃ u, valV kvs (Sum.inr n) = some u ∧ r.p F u x) ∧ (getR rows n = none → valV kvs (Sum.inr n) = none)
  | _, _, .nil => ⟨(fun x h => by cases h), fun _ => rfl⟩
  | kv :: kvs, (a, y) :: rows, .cons ⟨h1, h2⟩ hr => by
    have h1 : kv.1 = Sum.inr a := h1
    obtain ⟨ih1, ih2⟩ := KVs.val (n := n) hr
    by_cases e : a = n
    · subst e
      have e2 : getR ((a, y) :: rows) a = some y := by unfold getR; simp
      refine ⟨fun x hx => ?_, fun hx => ?_⟩
      · rw [e2] at hx
        cases hx
        exact ⟨kv.2, by rw [valV_pos h1], h2⟩
      · rw [e2] at hx
        cases hx
    · have e2 : getR ((a, y) :: rows) n = getR rows n := by unfold getR; simp [e]
      have hk : ¬ kv.1 = Sum.inr n := fun q => by rw [h1] at q; exact e (Sum.inr.inj q)
      rw [e2, valV_neg hk]
      exact ⟨ih1, ih2⟩
/-- a dict to be read -/
def DicP {α : Type} (fr : Fr) (Θ : List Cel) (p : Vp) (r : Rep α) (rows : List (Str × α)) : Prop := ∀ F H v, OkF fr Θ F H → p.p F v → ∃ a kvs, v = .ref a ∧ H a = some (.dK kvs) ∧ KVs r F kvs rows
theorem dic_D {α : Type} {r : Rep α} {rows : List (Str × α)} : DicP fr Θ (iz (zD r) rows) r rows := fun F H v ok ⟨a, kvs, h1, h2, h3⟩ => ⟨a, kvs, h1, ok.fh _ _ h2, h3⟩
theorem dic_C {α : Type} {r : Rep α} {rows : List (Str × α)} {a : Addr} (hc : cD a r rows ∈ Θ) : DicP fr Θ (zAt a) r rows := fun F H v ok hv => by
  obtain ⟨_, ⟨o, h2, kvs, rfl, h4⟩, _⟩ := ok.ce _ hc
  exact ⟨a, kvs, hv, h2, h4⟩
theorem we_dget {td ty : TE} (w : We fr Γ Θ td fun p Θ1 => We fr Γ Θ1 ty fun q Θ2 => ∃ (α : Type) (r : Rep α) (rows : List (Str × α)) (n : Str) (x : α), DicP fr Θ2 p r rows ∧ q = iz zS n ∧ getR rows n = some x ∧ K (iz r x) Θ2) : We fr Γ Θ (tDGet td ty) K := fun σ F H ok env Q q =>
  w σ F H ok env _ fun p Θ1 k v F1 H1 s1 ok1 hp => k σ F1 H1 ok1 (env.mono s1) _ fun p2 Θ2 ⟨α, r, rows, n, x, hd, e, hx, kk⟩ v2 F2 H2 s2 ok2 hp2 => by
    subst e
    obtain ⟨a, kvs, h1, h2, h3⟩ := hd F2 H2 v ok2 (p.mono s2 hp)
    obtain ⟨u, hu, hr⟩ := h3.val.1 x hx
    exact ⟨a, u, h1, .inl ⟨kvs, Sum.inr n, .inl h2, hp2.1, hu.symm⟩, q _ _ kk u F2 H2 (s1.trans s2) ok2 hr⟩
theorem opt_some {α : Type} {r : Rep α} {rows : List (Str × α)} {kvs : List (Key × V)} {n : Str} (h3 : KVs r F kvs rows) : (valV kvs (Sum.inr n)).isSome = (getR rows n).isSome := by
  cases e : getR rows n with
  | none => rw [h3.val.2 e]; rfl
  | some x =>
    obtain ⟨u, hu, _⟩ := h3.val.1 x e
    rw [hu]
    rfl
theorem we_din {td ty : TE} (w : We fr Γ Θ ty fun q Θ1 => We fr Γ Θ1 td fun p Θ2 => ∃ (α : Type) (r : Rep α) (rows : List (Str × α)) (n : Str), DicP fr Θ2 p r rows ∧ q = iz zS n ∧ K (iz zB (getR rows n).isSome) Θ2) : We fr Γ Θ (tDIn ty td) K := fun σ F H ok env Q q =>
  w σ F H ok env _ fun p Θ1 k v F1 H1 s1 ok1 hp => k σ F1 H1 ok1 (env.mono s1) _ fun p2 Θ2 ⟨α, r, rows, n, hd, e, kk⟩ v2 F2 H2 s2 ok2 hp2 => by
    subst e
    obtain ⟨a, kvs, h1, h2, h3⟩ := hd F2 H2 v2 ok2 hp2
    refine ⟨a, _, h1, .inl ⟨kvs, Sum.inr n, .inl h2, hp.1, rfl⟩, q _ _ kk _ F2 H2 (s1.trans s2) ok2 ?_⟩
    show _ = V.bl _
    rw [opt_some h3]
theorem we_dnin {td ty : TE} (w : We fr Γ Θ ty fun q Θ1 => We fr Γ Θ1 td fun p Θ2 => ∃ (α : Type) (r : Rep α) (rows : List (Str × α)) (n : Str), DicP fr Θ2 p r rows ∧ q = iz zS n ∧ K (iz zB (!(getR rows n).isSome)) Θ2) : We fr Γ Θ (tDNotIn ty td) K := fun σ F H ok env Q q =>
  w σ F H ok env _ fun p Θ1 k v F1 H1 s1 ok1 hp => k σ F1 H1 ok1 (env.mono s1) _ fun p2 Θ2 ⟨α, r, rows, n, hd, e, kk⟩ v2 F2 H2 s2 ok2 hp2 => by
    subst e
    obtain ⟨a, kvs, h1, h2, h3⟩ := hd F2 H2 v2 ok2 hp2
    refine ⟨a, _, h1, .inl ⟨kvs, Sum.inr n, .inl h2, hp.1, rfl⟩, q _ _ kk _ F2 H2 (s1.trans s2) ok2 ?_⟩
    show _ = V.bl _
    rw [opt_some h3]
/-- {} of one's own -/
theorem we_dnew {α : Type} (r : Rep α) (k : ∀ a, K (zAt a) (cD a r [] :: Θ)) : We fr Γ Θ tDNewK K := fun σ F H ok env Q q a na => q _ _ (k a) _ F _ (Same.refl F) (ok.mkOwn (c := cD a r []) na rfl ⟨[], rfl, .nil⟩) rfl
def putR {α : Type} (rows : List (Str × α)) (n : Str) (x : α) : List (Str × α) := if n ∈ rows.map (·.1) then rows.map fun y => if y.1 = n then (y.1, x) else y else rows ++ [(n, x)]
theorem KVs.put {α : Type} {r : Rep α} {kvs : List (Key × V)} {rows : List (Str × α)} {n : Str} {x : α} {u : V} (h : KVs r F kvs rows) (hu : r.p F u x) : KVs r F (putK kvs (Sum.inr n) u) (putR rows n x) := by
  have hk : (kvs.any fun kv => decide (kv.1 = Sum.inr n)) = decide (n ∈ rows.map (·.1)) := by
    induction h with
    | nil => rfl
    | cons a b ih =>
      rename_i kv y kvs rows
      rw [List.any_cons, ih, a.1, List.map_cons]
      by_cases e : y.1 = n
      · rw [decide_eq_true (by rw [e]), Bool.true_or, decide_eq_true (by rw [e]; exact List.mem_cons_self ..)]
      · rw [decide_eq_false (fun q => e (Sum.inr.inj q)), Bool.false_or]
        by_cases e2 : n ∈ rows.map (·.1)
        · rw [decide_eq_true e2, decide_eq_true (List.mem_cons_of_mem _ e2)]
        · rw [decide_eq_false e2, decide_eq_false fun q => (List.mem_cons.mp q).elim (fun q => e q.symm) e2]
  unfold putK putR
  by_cases e : n ∈ rows.map (·.1)
  · rw [if_pos e, if_pos (by rw [hk]; exact decide_eq_true e)]
    clear hk e
    induction h with
    | nil => exact .nil
    | cons a b ih =>
      refine .cons ?_ ih
      rename_i kv y kvs rows
      dsimp only
      by_cases e : y.1 = n
      · rw [if_pos e, if_pos (by rw [a.1, e])]
        exact ⟨a.1, hu⟩
      · rw [if_neg e, if_neg (fun q => e (Sum.inr.inj (a.1.symm.trans q)))]
        exact a
  · rw [if_neg e, if_neg (by rw [hk]; simpa using e)]
    exact PySem.Paired.snoc h ⟨rfl, hu⟩
/-- d[n] = x -/
theorem kn_dput {td ty tv : TE} {D : Ends} (w : We fr Γ Θ tv fun p Θ1 => We fr Γ Θ1 td fun pd Θ2 => We fr Γ Θ2 ty fun q Θ3 => ∃ (α : Type) (r : Rep α) (rows : List (Str × α)) (n : Str) (x : α) (a : Addr) (j : Nat), p = iz r x ∧ pd = zAt a ∧ q = iz zS n ∧ Θ3[j]? = some (cD a r rows) ∧ rows.length < 1000 ∧ Kn fr Γ (Θ3.set j (cD a r (putR rows n x))) D.nx) : Kn fr Γ Θ (sDPut td ty tv D) := fun σ F H ok env =>
  w σ F H ok env _ fun p Θ1 k v F1 H1 s1 ok1 hp => k σ F1 H1 ok1 (env.mono s1) _ fun p2 Θ2 k2 v2 F2 H2 s2 ok2 hp2 => k2 σ F2 H2 ok2 ((env.mono s1).mono s2) _ fun p3 Θ3 ⟨α, r, rows, n, x, a, j, e1, e2, e3, hj, hl, kk⟩ v3 F3 H3 s3 ok3 hp3 => by
    subst e1 e2 e3
    obtain ⟨_, ⟨o, h2, kvs, rfl, h4⟩, _⟩ := ok3.ce _ (List.mem_of_getElem? hj)
    refine ⟨a, _, hp2, .inl ⟨kvs, Sum.inr n, h2, hp3.1, by rw [Paired.len h4]; exact small1000 (Nat.le_of_lt hl), rfl⟩, ?_⟩
    exact kk σ F3 _ (ok3.mut hj rfl rfl ⟨_, rfl, h4.put (r.mono (s2.trans s3) hp)⟩) (((env.mono s1).mono s2).mono s3)
end
structure PlanOk (d : PlanD) : Prop where
  pa : ∀ y ∈ d.places, Wd y
  pn : d.places.Nodup
  bl : d.begin.length = d.places.length
  bn : ∀ n ∈ d.begin, 0 ≤ n ∧ n ≤ 99
  st : ∀ r ∈ d.steps, Wd r.1 ∧ r.2.1 ≠ [] ∧ inOrd d.places r.2.1 = r.2.1 ∧ inOrd d.places r.2.2 = r.2.2
  sn : d.names.Nodup
  p12 : d.places.length ≤ 12
  s16 : d.steps.length ≤ 16
theorem inOrd_sub {ps ns : List Str} {y : Str} (h : y ∈ inOrd ps ns) : y ∈ ps ∧ y ∈ ns := by
  unfold inOrd at h
  obtain ⟨h1, h2⟩ := List.mem_filter.mp h
  exact ⟨h1, of_decide_eq_true h2⟩
theorem PlanOk.tk {d : PlanD} (h : PlanOk d) {r : SRow} (hr : r ∈ d.steps) {y : Str} (hy : y ∈ r.2.1) : y ∈ d.places := by
  rw [← (h.st r hr).2.2.1] at hy
  exact (inOrd_sub hy).1
theorem PlanOk.gv {d : PlanD} (h : PlanOk d) {r : SRow} (hr : r ∈ d.steps) {y : Str} (hy : y ∈ r.2.2) : y ∈ d.places := by
  rw [← (h.st r hr).2.2.2] at hy
  exact (inOrd_sub hy).1
def zPlan (C : Addr) : Rep PlanD := ⟨fun F v d => ∃ x, v = .ref x ∧ PlanAt F C x d ∧ PlanOk d, fun e ⟨x, h1, h2, h3⟩ => ⟨x, h1, h2.keep e, h3⟩⟩
def PlanD.tk (d : PlanD) : List (Str × List Str) := d.steps.map fun s => (s.1, s.2.1)
def PlanD.gv (d : PlanD) : List (Str × List Str) := d.steps.map fun s => (s.1, s.2.2)
section
variable {fr : Fr} {Γ Γ' : Gam} {Θ : List Cel} {F F' H H' : Hp} {K : PySem.W.Frag} {C : Addr} {d : PlanD}
theorem strs_pvs {ws : List Str} (h : ∀ y ∈ ws, Asc y) : PVs zS F (ws.map V.str) ws := by
  induction ws with
  | nil => exact .nil
  | cons a ws ih => exact .cons ⟨rfl, h a (List.mem_cons_self ..)⟩ (ih fun y hy => h y (List.mem_cons_of_mem _ hy))
theorem ints_pvs {ws : List Int} : PVs zI F (ws.map V.int) ws := by
  induction ws with
  | nil => exact .nil
  | cons a ws ih => exact .cons rfl ih
theorem tab_kvs : ∀ {kvs : List (Key × V)} {rows : List (Str × List Str)}, TabAt F kvs rows → (∀ r ∈ rows, ∀ y ∈ r.2, Asc y) → KVs (zT zS) F kvs rows
  | _, _, .nil, _ => .nil
  | _, _, .cons ⟨h1, t, h2, h3⟩ r, h => .cons ⟨h1, t, _, h2, .inl h3, strs_pvs (h _ (List.mem_cons_self ..))⟩ (tab_kvs r fun r' hr => h r' (List.mem_cons_of_mem _ hr))
/-- the class Plan, as the top left it -/
structure PlanK (K : PySem.W.Frag) (C : Addr) : Prop where
  cl : Cls K C
  nP : NoAttr K C "places"
  nB : NoAttr K C "begin"
  nT : NoAttr K C "taken"
  nG : NoAttr K C "given"
  nS : NoAttr K C "steps"
theorem fld_places (T : PlanK K C) : FldR K "places" (iz (zPlan C) d) (iz (zT zS) d.places) := fun F v ⟨x, h1, h2, h3⟩ => by
  obtain ⟨dx, tp, tb, td, tg, ts, kt, kg, p1, p2, p3, p4, p5, p6, p7, p8⟩ := h2.ex
  exact ⟨x, C, dx, _, _, h1, p1, T.cl, T.nP, rfl, tp, _, rfl, p2.tb, strs_pvs fun y hy => (h3.pa y hy).asc⟩
theorem fld_begin (T : PlanK K C) : FldR K "begin" (iz (zPlan C) d) (iz (zT zI) d.begin) := fun F v ⟨x, h1, h2, h3⟩ => by
  obtain ⟨dx, tp, tb, td, tg, ts, kt, kg, p1, p2, p3, p4, p5, p6, p7, p8⟩ := h2.ex
  exact ⟨x, C, dx, _, _, h1, p1, T.cl, T.nB, rfl, tb, _, rfl, .inl p3, ints_pvs⟩
theorem fld_steps (T : PlanK K C) : FldR K "steps" (iz (zPlan C) d) (iz (zT zS) d.names) := fun F v ⟨x, h1, h2, h3⟩ => by
  obtain ⟨dx, tp, tb, td, tg, ts, kt, kg, p1, p2, p3, p4, p5, p6, p7, p8⟩ := h2.ex
  refine ⟨x, C, dx, _, _, h1, p1, T.cl, T.nS, rfl, ts, _, rfl, p6, strs_pvs fun y hy => ?_⟩
  obtain ⟨r, hr, rfl⟩ := List.mem_map.mp hy
  exact (h3.st r hr).1.asc
theorem fld_taken (T : PlanK K C) : FldR K "taken" (iz (zPlan C) d) (iz (zD (zT zS)) d.tk) := fun F v ⟨x, h1, h2, h3⟩ => by
  obtain ⟨dx, tp, tb, td, tg, ts, kt, kg, p1, p2, p3, p4, p5, p6, p7, p8⟩ := h2.ex
  refine ⟨x, C, dx, _, _, h1, p1, T.cl, T.nT, rfl, td, kt, rfl, p4, tab_kvs p7 fun r hr y hy => ?_⟩
  obtain ⟨s, hs, rfl⟩ := List.mem_map.mp hr
  exact (h3.pa y (h3.tk hs hy)).asc
theorem fld_given (T : PlanK K C) : FldR K "given" (iz (zPlan C) d) (iz (zD (zT zS)) d.gv) := fun F v ⟨x, h1, h2, h3⟩ => by
  obtain ⟨dx, tp, tb, td, tg, ts, kt, kg, p1, p2, p3, p4, p5, p6, p7, p8⟩ := h2.ex
  refine ⟨x, C, dx, _, _, h1, p1, T.cl, T.nG, rfl, tg, kg, rfl, p5, tab_kvs p8 fun r hr y hy => ?_⟩
  obtain ⟨s, hs, rfl⟩ := List.mem_map.mp hr
  exact (h3.pa y (h3.gv hs hy)).asc
/-- a plan is an instance; none of these is a field of it -/
theorem ins_plan {m : Str} (hm : ([("places", (0 : Nat)), ("begin", 0), ("taken", 0), ("given", 0), ("steps", 0)] : List (Str × Nat)).lookup m = none) : InsP fr Θ (iz (zPlan C) d) C m := fun F H v ok ⟨x, h1, h2, h3⟩ => by
  obtain ⟨dx, tp, tb, td, tg, ts, kt, kg, p1, p2, p3, p4, p5, p6, p7, p8⟩ := h2.ex
  refine ⟨x, dx, _, h1, ok.fh _ _ p1, ?_⟩
  simp only [List.lookup_cons] at hm ⊢
  revert hm
  cases (m == ("places" : Str)) <;> cases (m == ("begin" : Str)) <;> cases (m == ("taken" : Str)) <;> cases (m == ("given" : Str)) <;> cases (m == ("steps" : Str)) <;> simp
theorem PlanOk.tkn {d : PlanD} : d.tk.map (·.1) = d.names := by
  unfold PlanD.tk PlanD.names
  rw [List.map_map]
  rfl
theorem PlanOk.gvn {d : PlanD} : d.gv.map (·.1) = d.names := by
  unfold PlanD.gv PlanD.names
  rw [List.map_map]
  rfl
theorem PlanOk.tkr (h : PlanOk d) {r : SRow} (hr : r ∈ d.steps) : getR d.tk r.1 = some r.2.1 := getR_nodup (by rw [PlanOk.tkn]; exact h.sn) (List.mem_map.mpr ⟨r, hr, rfl⟩)
theorem PlanOk.gvr (h : PlanOk d) {r : SRow} (hr : r ∈ d.steps) : getR d.gv r.1 = some r.2.2 := getR_nodup (by rw [PlanOk.gvn]; exact h.sn) (List.mem_map.mpr ⟨r, hr, rfl⟩)
theorem plan_ok {F : Hp} {v : V} (h : (iz (zPlan C) d).p F v) : PlanOk d := by
  obtain ⟨_, _, _, h⟩ := h
  exact h
/-- all that is new is frozen -/
def newF (F H H' : Hp) : Hp := fun a => match H a with
  | none => H' a
  | some _ => F a
theorem newF_of (fh : Same F H) (hh : Same H H') : Same F (newF F H H') ∧ Same (newF F H H') H' ∧ Newer F H (newF F H H') := by
  refine ⟨fun a o h => ?_, fun a o h => ?_, fun a o h => ?_⟩
  · unfold newF
    rw [fh a o h]
    exact h
  · unfold newF at h
    cases q : H a with
    | none => rw [q] at h; exact h
    | some u => rw [q] at h; exact hh _ _ (fh _ _ h)
  · unfold newF at h
    cases q : H a with
    | none => exact .inr (.inl q)
    | some u => rw [q] at h; exact .inl ⟨o, h⟩
theorem newF_at {a : Addr} {o : HO} (n : H a = none) (h : H' a = some o) : newF F H H' a = some o := by
  unfold newF
  rw [n]
  exact h
end
/-- the class Plan and its name -/
structure PlanC (K : PySem.W.Frag) (mg : Str → Option Value) (C : Addr) : Prop where
  cl : Cls K C
  gC : mg "Plan" = some (.ref C)
  nP : NoAttr K C "places"
  nB : NoAttr K C "begin"
  nT : NoAttr K C "taken"
  nG : NoAttr K C "given"
  nS : NoAttr K C "steps"
section
variable {K : PySem.W.Frag} {mg : Str → Option Value} {C : Addr} {fr : Fr} {Θ : List Cel} {d : PlanD}
theorem PlanC.k (T : PlanC K mg C) : PlanK K C := ⟨T.cl, T.nP, T.nB, T.nT, T.nG, T.nS⟩
theorem fldP_places (T : PlanC K mg C) : FldP fr Θ K "places" (iz (zPlan C) d) (iz (zT zS) d.places) := (fld_places T.k).p
theorem fldP_begin (T : PlanC K mg C) : FldP fr Θ K "begin" (iz (zPlan C) d) (iz (zT zI) d.begin) := (fld_begin T.k).p
theorem fldP_steps (T : PlanC K mg C) : FldP fr Θ K "steps" (iz (zPlan C) d) (iz (zT zS) d.names) := (fld_steps T.k).p
theorem fldP_taken (T : PlanC K mg C) : FldP fr Θ K "taken" (iz (zPlan C) d) (iz (zD (zT zS)) d.tk) := (fld_taken T.k).p
theorem fldP_given (T : PlanC K mg C) : FldP fr Θ K "given" (iz (zPlan C) d) (iz (zD (zT zS)) d.gv) := (fld_given T.k).p
end
theorem is_var {fr : Fr} {Γ : Gam} {Θ : List Cel} {K : Vp → List Cel → Prop} {i : Nat} (h : We fr Γ Θ (tVar i) K) : We fr Γ Θ (tVar i) K := h
theorem is_cS {fr : Fr} {Γ : Gam} {Θ : List Cel} {K : Vp → List Cel → Prop} {z : Str} (h : We fr Γ Θ (tC (.str z)) K) : We fr Γ Θ (tC (.str z)) K := h
theorem asc_of {z : Str} (h : (z.cps.toList.all fun c => decide (c < 128)) = true) : Asc z := fun c hc => of_decide_eq_true (List.all_eq_true.mp h c hc)
end L2
set_option Elab.async false
set_option linter.all false
set_option maxRecDepth 100000
set_option maxHeartbeats 4000000
namespace L2
open PySem PySem.Spec PyProof.Rows PySem.HErr
section
variable {fr : Fr} {Γ Γ' : Gam} {Θ : List Cel} {F F' H H' : Hp} {K : Vp → List Cel → Prop} {Q : VK}
theorem we_nil {α : Type} (r : Rep α) (k : ∀ a, K (zAt a) (cL a r [] :: Θ)) : We fr Γ Θ (tLst tNil) K := we_own r (wa_nil ⟨[], rfl, by decide, k⟩)
theorem mem_intsF {n : Nat} {k : Int} (h : k ∈ intsF 0 n) : ∃ j : Nat, j < n ∧ k = j := by
  unfold intsF at h
  obtain ⟨j, hj, e⟩ := List.mem_map.mp h
  exact ⟨j, List.mem_range.mp hj, by omega⟩
end
end L2
set_option Elab.async false
set_option linter.all false
set_option maxRecDepth 100000
set_option maxHeartbeats 4000000
namespace L2
open PySem PySem.Spec PyProof.Rows PySem.HErr
section
variable {fr : Fr} {Γ Γ' : Gam} {Θ Θ' : List Cel} {F F' H H' : Hp} {K : Vp → List Cel → Prop} {Q : VK}
theorem OkF.perm (k : OkF fr Θ F H) (p : Θ.Perm Θ') : OkF fr Θ' F H := ⟨k.fh, k.f0, k.nw, k.h0, k.al, (p.map Cel.a).nodup_iff.mp k.nd, fun c hc => k.ce c (p.mem_iff.mpr hc)⟩
theorem Kn.perm {P : L2.St → Hp → Prop} (k : Kn fr Γ Θ' P) (p : Θ.Perm Θ') : Kn fr Γ Θ P := fun σ F H ok env => k σ F H (ok.perm p) env
end
end L2
set_option Elab.async false
set_option linter.all false
set_option maxRecDepth 100000
set_option maxHeartbeats 4000000
namespace L2
open PySem PySem.Spec PyProof.Rows PySem.HErr
/-- an instance of one's own -/
def cI (a C dx : Addr) (fs : List (Str × Vp)) : Cel := ⟨a, true, fun F o => ∃ us, o = .ins C dx us ∧ FsOk F fs us, fun e ⟨us, h1, h2⟩ => ⟨us, h1, h2.mono e⟩, fun h e => by subst e; simp at h⟩
def putP (f : Str) (p : Vp) : List (Str × Vp) → List (Str × Vp)
  | [] => [(f, p)]
  | (g, q) :: r => if g = f then (g, p) :: r else (g, q) :: putP f p r
section
variable {fr : Fr} {Γ Γ' : Gam} {Θ Θ' : List Cel} {F F' H H' : Hp} {K : Vp → List Cel → Prop} {Q : VK}
theorem FsOk.put {f : Str} {p : Vp} {v : V} (hp : p.p F v) : ∀ {fs : List (Str × Vp)} {us : List (Str × V)}, FsOk F fs us → FsOk F (putP f p fs) (putF f v us)
  | _, _, .nil => .cons ⟨rfl, hp⟩ .nil
  | (g, q) :: fs, (g', u) :: us, .cons ⟨h1, h2⟩ r => by
    have h1 : g = g' := h1
    subst h1
    unfold putP putF
    by_cases e : g = f
    · rw [if_pos e, if_pos e]
      exact .cons ⟨rfl, hp⟩ r
    · rw [if_neg e, if_neg e]
      exact .cons ⟨rfl, h2⟩ (FsOk.put hp r)
/-- self.f = e -/
theorem kn_fldPut {Kf : PySem.W.Frag} {f : Str} {ta tv : TE} {D : Ends} (w : We fr Γ Θ tv fun p Θ1 => We fr Γ Θ1 ta fun q Θ2 => ∃ a C dx fs j, q = zAt a ∧ Θ2[j]? = some (cI a C dx fs) ∧ Cls Kf C ∧ NoAttr Kf C f ∧ fs.length < 1000 ∧ Kn fr Γ (Θ2.set j (cI a C dx (putP f p fs))) D.nx) : Kn fr Γ Θ (sFld Kf ta tv f D) := fun σ F H ok env =>
  w σ F H ok env _ fun p Θ1 k v F1 H1 s1 ok1 hp => k σ F1 H1 ok1 (env.mono s1) _ fun p2 Θ2 ⟨a, C, dx, fs, j, e, hj, hc, hn, hl, kk⟩ v2 F2 H2 s2 ok2 hp2 => by
    subst e
    obtain ⟨_, ⟨o, h2, us, rfl, h4⟩, _⟩ := ok2.ce _ (List.mem_of_getElem? hj)
    exact ⟨a, C, dx, us, hp2, h2, hc, hn, by rw [← Paired.len h4]; exact hl, kk σ F2 _ (ok2.mut hj rfl rfl ⟨_, rfl, h4.put (p.mono s2 hp)⟩) ((env.mono s1).mono s2)⟩
theorem fld_C {Kf : PySem.W.Frag} {f : Str} {a C dx : Addr} {fs : List (Str × Vp)} {q : Vp} (hc : cI a C dx fs ∈ Θ) (h3 : Cls Kf C) (h4 : NoAttr Kf C f) (h5 : fs.lookup f = some q) : FldP fr Θ Kf f (zAt a) q := fun F H v ok hv => by
  obtain ⟨_, ⟨o, h2, us, rfl, h6⟩, _⟩ := ok.ce _ hc
  obtain ⟨u, h7, h8⟩ := h6.look h5
  exact ⟨a, C, dx, us, u, hv, h2, h3, h4, h7, h8⟩
def minus (H : Hp) (x : Addr) : Hp := fun a => if a = x then none else H a
theorem minus_ne {x a : Addr} (h : a ≠ x) : minus H x a = H a := if_neg h
theorem minus_self {x : Addr} : minus H x x = none := if_pos rfl
/-- what __init__ promises: out tells what the instance at x then is -/
def spI (C : Addr) (pre : Pre) : Sp := fun vs H Q E => ∃ x dx vs' F ps out err, vs = .ref x :: vs' ∧ H x = some (.ins C dx []) ∧ F x = none ∧ Same F H ∧ Paired (fun (p : Vp) v => p.p F v) ps vs' ∧ pre ps out err ∧
  (∀ p, out p → ∀ F' H', Same (minus H x) H' → Same F F' → Same F' H' → Newer F (minus H x) F' → p.p F' (.ref x) → Q .non H') ∧ (∀ e, err e → ∀ F' H' d us, Same (minus H x) H' → Same F F' → Same F' H' → Newer F (minus H x) F' → F' d = some (.xd us) → FsOk F' e.fs us → E (.ref e.C) (some d) H')
theorem we_mk {C : Addr} {pre : Pre} {E : L2.St → XK} {t : TA} (w : Wa fr Γ Θ t fun ps Θ1 => ∃ out err, pre ps out err ∧ (∀ p, out p → K p Θ1) ∧ ∀ e, err e → Kr fr Γ Θ1 (fun cls d σ H => E σ cls d H) e) : We fr Γ Θ (tMkD C (spI C pre) E t) K := fun σ F H ok env Q q =>
  w σ F H ok env _ fun ps Θ1 ⟨out, err, hp, ko, ke⟩ vs F1 H1 s1 ok1 hps => fun x dx nx ndx ne => by
    have hs : Same H1 (upd (upd H1 dx (.own x)) x (.ins C dx [])) := (same_upd ndx).trans (same_upd (by rw [upd_ne (Ne.symm ne)]; exact nx))
    have hm : ∀ {H' : Hp}, Same (minus (upd (upd H1 dx (.own x)) x (.ins C dx [])) x) H' → Same H1 H' := fun h a o e => h a o (by rw [minus_ne (ne_of_none e nx)]; exact hs a o e)
    have hn : ∀ {F' : Hp}, Newer F1 (minus (upd (upd H1 dx (.own x)) x (.ins C dx [])) x) F' → Newer F1 H1 F' := fun h a o e => by
      rcases h a o e with h' | h'
      · exact .inl h'
      · refine .inr (h'.elim (fun h' => ?_) .inr)
        by_cases ea : a = x
        · rw [ea]; exact .inl nx
        · rw [minus_ne ea] at h'
          exact .inl (hs.free h')
    refine ⟨x, dx, vs, F1, ps, out, err, rfl, upd_same, ok1.fh.free nx, ok1.fh.trans hs, hps, hp, fun p ho F' H' hh ff fh nw hv => ⟨rfl, ?_⟩, fun e he F' H' d us hh ff fh nw hd hf => ?_⟩
    · exact q p Θ1 (ko p ho) _ F' H' (s1.trans ff) (ok1.grow (hm hh) ff fh (hn nw)) hv
    · exact ke e he σ F' H' (ok1.grow (hm hh) ff fh (hn nw)) ((env.mono s1).mono ff) d us hd hf
theorem okf_init {x C dx : Addr} (hx : H x = some (.ins C dx [])) (fx : F x = none) (fh : Same F H) : OkF ⟨F, minus H x, []⟩ [cI x C dx []] F H := by
  refine ⟨fh, Same.refl F, fun a o h => .inl ⟨o, h⟩, fun a o _ h => ?_, fun a o h => ?_, by simp, fun c hc => ?_⟩
  · have h : minus H x a = some o := h
    by_cases e : a = x
    · rw [e, minus_self] at h; cases h
    · rw [minus_ne e] at h; exact h
  · have h : minus H x a = some o := h
    by_cases e : a = x
    · rw [e, minus_self] at h; cases h
    · rw [minus_ne e] at h; exact ⟨o, h⟩
  · rw [List.mem_singleton.mp hc]
    exact ⟨fx, ⟨_, hx, [], rfl, .nil⟩, minus_self⟩
end
section
variable {P : Program} {w : World} {K : PySem.W.Frag} {mg : Str → Option Value} {base : Heap} {qual : Str} {C : Addr} {st : Stmt} {N ps : List Str} {k : Nat} {pre : Pre}
/-- the body of __init__: at its end the instance is what out says -/
theorem SrcI.okAX (F : SrcI K C qual st ps) (S : FnScope N ps (defScope st)) (len : ∀ qs out err, pre qs out err → qs.length + 1 = ps.length)
    (hbody : ∀ (f : Addr) (cdv : Value) (A : Around) (outer : List Env) (s : Shared) (H : Hp) (E : XK) (qs : List Vp) (out : Vp → Prop) (err : Er → Prop), Room k (A.deeper (envOfC qual (defScope st) s.heap.objs.size f cdv)) → pre qs out err →
      ∃ t, PSs (cxOf (L2.CX P w) P w K mg base N qual (defScope st) f cdv A outer s H E) (defBody st) t ∧ ∀ fr x dx (Q : L2.St → Hp → Prop) (rt : VK), (∀ p, out p → ∀ σ F H, (∃ Θ, OkF fr Θ F H) → p.p F (.ref x) → Q σ H) → (∀ p, out p → ∀ F H, (∃ Θ, OkF fr Θ F H) → p.p F (.ref x) → rt .non H) → Rse fr E err →
        Kn fr (envOf N (zAt x :: qs)) [cI x C dx []] (t { nx := Q, rt := rt })) : DefI P w K mg base (L2.CX P w) (k + 1) C ps (spI C pre) := by
  refine F.okX S (fun vs H Q E h => ?_) (fun f cdv A outer s H vs Q E hr h => ?_)
  · obtain ⟨x, dx, vs', F, qs, out, err, rfl, _, _, _, h2, h3, _⟩ := h
    rw [List.length_cons, ← Paired.len h2]
    exact len _ _ _ h3
  · obtain ⟨x, dx, vs', F, qs, out, err, rfl, hx, fx, fh, h2, h3, h4, h5⟩ := h
    obtain ⟨t, ht, hk⟩ := hbody f cdv A outer s H E qs out err hr h3
    have post : ∀ {Θ : List Cel} {F' H' : Hp}, OkF ⟨F, minus H x, []⟩ Θ F' H' → Same (minus H x) H' ∧ Same F F' ∧ Same F' H' ∧ Newer F (minus H x) F' := fun ok => ⟨fun a o h => ok.h0 a o (by simp) h, ok.f0, ok.fh, ok.nw⟩
    have c1 : ∀ p, out p → ∀ (σ : L2.St) F' H', (∃ Θ, OkF ⟨F, minus H x, []⟩ Θ F' H') → p.p F' (.ref x) → Q .non H' := fun p hp σ F' H' ⟨Θ, ok⟩ hv => by
      obtain ⟨a, b, c, d⟩ := post ok
      exact h4 p hp F' H' a b c d hv
    have c2 : Rse ⟨F, minus H x, []⟩ E err := fun e he Θ F' H' d us ok hd hf => by
      obtain ⟨a, b, c, n⟩ := post ok
      exact h5 e he F' H' d us a b c n hd hf
    exact ⟨t, ht, hk ⟨F, minus H x, []⟩ x dx (fun _ H' => Q .non H') Q c1 (fun p hp F' H' => c1 p hp [] F' H') c2 _ F H (okf_init hx fx fh) (env_start (vs := .ref x :: vs') (.cons rfl h2))⟩
end
section
variable {F F' H H' : Hp} {E : XK} {err : Er → Prop}
/-- fields that are plain stand anywhere -/
theorem PErs.rais {C : Addr} {fs : List (Str × Vp)} {us : List (Str × V)} (h : PErs F H E err) (fh : Same F H) (he : err ⟨C, fs⟩) (hf : ∀ F', FsOk F' fs us) : Rais E H C us := fun H' d sm nd hd => by
  obtain ⟨n1, n2, n3⟩ := newF_of fh sm
  exact h _ he _ H' d us sm n1 n2 n3 (newF_at nd hd) (hf _)
theorem fs1S {f : Str} {z : Str} (h : Asc z) : ∀ F', FsOk F' [(f, iz zS z)] [(f, .str z)] := fun _ => .cons ⟨rfl, rfl, h⟩ .nil
theorem fs1I {f : Str} {n : Int} : ∀ F', FsOk F' [(f, iz zI n)] [(f, .int n)] := fun _ => .cons ⟨rfl, rfl⟩ .nil
theorem Post.flat {Q : VK} {out : Vp → Prop} {p : Vp} {v : V} (h : Post F H Q out) (fh : Same F H) (hp : out p) (hf : ∀ F', p.p F' v) (hh : Same H H') : Q v H' := h p hp v F H' hh (Same.refl F) (fh.trans hh) (Newer.refl _ _) (hf F)
theorem Post.new {Q : VK} {out : Vp → Prop} {p : Vp} {v : V} (h : Post F H Q out) (fh : Same F H) (hp : out p) (hh : Same H H') (hf : p.p (newF F H H') v) : Q v H' := by
  obtain ⟨n1, n2, n3⟩ := newF_of fh hh
  exact h p hp v _ H' hh n1 n2 n3 hf
end
end L2
set_option Elab.async false
set_option linter.all false
set_option maxRecDepth 100000
set_option maxHeartbeats 4000000
namespace L2
open PySem PySem.Spec PyProof.Rows PySem.HErr
def tagC (c : Cel) : Addr × Bool := (c.a, c.own)
def CellsAt (F H : Hp) (Θ : List Cel) : Prop := (Θ.map Cel.a).Nodup ∧ ∀ c ∈ Θ, F c.a = none ∧ ∃ o, H c.a = some o ∧ c.φ F o
def SameX (as : List Addr) (H H' : Hp) : Prop := ∀ a o, a ∉ as → H a = some o → H' a = some o
def minusL (H : Hp) (as : List Addr) : Hp := fun a => if a ∈ as then none else H a
abbrev PreC := List Vp → List Cel → (Vp → List Cel → Prop) → (Er → List Cel → Prop) → Prop
structure Eff (F H : Hp) (Θ : List Cel) (F' H' : Hp) (Θ' : List Cel) : Prop where
  hh : SameX (Θ.map Cel.a) H H'
  ff : Same F F'
  fh : Same F' H'
  nw : Newer F H F'
  ca : CellsAt F' H' Θ'
  tg : Θ'.map tagC = Θ.map tagC
def spC (pre : PreC) : Sp := fun vs H Q E => ∃ F ps Θ out err, Same F H ∧ CellsAt F H Θ ∧ Paired (fun (p : Vp) v => p.p F v) ps vs ∧ pre ps Θ out err ∧
  (∀ p Θ', out p Θ' → ∀ v F' H', Eff F H Θ F' H' Θ' → p.p F' v → Q v H') ∧ (∀ e Θ', err e Θ' → ∀ F' H' d us, Eff F H Θ F' H' Θ' → F' d = some (.xd us) → FsOk F' e.fs us → E (.ref e.C) (some d) H')
section
variable {fr : Fr} {Γ Γ' : Gam} {Θ Θ' Θl Θr : List Cel} {F F' H H' : Hp} {K : Vp → List Cel → Prop} {Q : VK}
theorem tag_a (h : Θ'.map tagC = Θ.map tagC) : Θ'.map Cel.a = Θ.map Cel.a := by
  have := congrArg (List.map Prod.fst) h
  rw [List.map_map, List.map_map] at this
  exact this
theorem tag_mem (h : Θ'.map tagC = Θ.map tagC) {c : Cel} (hc : c ∈ Θ') : ∃ d ∈ Θ, d.a = c.a ∧ d.own = c.own := by
  have : tagC c ∈ Θ.map tagC := by rw [← h]; exact List.mem_map.mpr ⟨c, hc, rfl⟩
  obtain ⟨d, hd, e⟩ := List.mem_map.mp this
  exact ⟨d, hd, (Prod.mk.inj e).1, (Prod.mk.inj e).2⟩
theorem OkF.cellsAt (k : OkF fr (Θl ++ Θr) F H) : CellsAt F H Θl := by
  have := k.nd
  rw [List.map_append, List.nodup_append] at this
  exact ⟨this.1, fun c hc => by
    obtain ⟨h1, h2, _⟩ := k.ce c (List.mem_append_left _ hc)
    exact ⟨h1, h2⟩⟩
theorem OkF.eff (k : OkF fr (Θl ++ Θr) F H) (e : Eff F H Θl F' H' Θ') : OkF fr (Θ' ++ Θr) F' H' := by
  have ea := tag_a e.tg
  have hB : ∀ c ∈ Θl ++ Θr, ∀ a o, a ∉ fr.B → fr.H0 a = some o → a ≠ c.a := fun c hc a o hb h q => by
    obtain ⟨_, _, h4⟩ := k.ce c hc
    cases ho : c.own with
    | true =>
      rw [if_pos ho] at h4
      rw [q, h4] at h
      cases h
    | false =>
      rw [if_neg (by rw [ho]; exact Bool.false_ne_true)] at h4
      rw [q] at hb
      exact hb h4
  have nl : ∀ a o, a ∉ fr.B → fr.H0 a = some o → a ∉ Θl.map Cel.a := fun a o hb h q => by
    obtain ⟨c, hc, e⟩ := List.mem_map.mp q
    exact hB c (List.mem_append_left _ hc) a o hb h e.symm
  refine ⟨e.fh, k.f0.trans e.ff, fun a o h => ?_, fun a o hb h => ?_, fun a o h => ?_, ?_, fun c hc => ?_⟩
  · exact k.nwr e.ff h (e.nw a o h)
  · exact e.hh a o (nl a o hb h) (k.h0 a o hb h)
  · by_cases q : a ∈ Θl.map Cel.a
    · rw [← ea] at q
      obtain ⟨c, hc, e1⟩ := List.mem_map.mp q
      obtain ⟨_, o', h', _⟩ := e.ca.2 c hc
      exact ⟨o', by rw [← e1]; exact h'⟩
    · obtain ⟨o', h'⟩ := k.al a o h
      exact ⟨o', e.hh a o' q h'⟩
  · rw [List.map_append, ea, ← List.map_append]
    exact k.nd
  · rcases List.mem_append.mp hc with hc | hc
    · obtain ⟨h1, h2⟩ := e.ca.2 c hc
      refine ⟨h1, h2, ?_⟩
      obtain ⟨d, hd, e1, e2⟩ := tag_mem e.tg hc
      have := (k.ce d (List.mem_append_left _ hd)).2.2
      rw [e1, e2] at this
      exact this
    · obtain ⟨h1, ⟨u, h2, h3⟩, h4⟩ := k.ce c (List.mem_append_right _ hc)
      have ne : c.a ∉ Θl.map Cel.a := fun q => by
        have := k.nd
        rw [List.map_append, List.nodup_append] at this
        exact this.2.2 _ q _ (List.mem_map.mpr ⟨c, hc, rfl⟩) rfl
      refine ⟨?_, ⟨u, e.hh _ _ ne h2, c.mono e.ff h3⟩, h4⟩
      cases q : F' c.a with
      | none => rfl
      | some o =>
        rcases e.nw _ _ q with ⟨o', h'⟩ | h' | ⟨vs, ht⟩
        · rw [h1] at h'
          cases h'
        · rw [h2] at h'
          cases h'
        · have e1 := e.fh _ _ q
          rw [e.hh _ _ ne h2] at e1
          exact (c.nt h3 ((Option.some.inj e1).trans ht)).elim
theorem sps_C {pre : PreC} {E : L2.St → XK} {ps : List Vp} {out : Vp → List Cel → Prop} {err : Er → List Cel → Prop} (hp : pre ps Θl out err) (pm : Θ.Perm (Θl ++ Θr)) (k : ∀ p Θ', out p Θ' → K p (Θ' ++ Θr)) (x : ∀ e Θ', err e Θ' → Kr fr Γ (Θ' ++ Θr) (fun cls d σ H => E σ cls d H) e) : Sps fr Γ Θ (spC pre) E ps K := fun σ F H vs ok env hps Q q => by
  have ok := ok.perm pm
  exact ⟨F, ps, Θl, out, err, ok.fh, ok.cellsAt, hps, hp, fun p Θ' ho v F' H' ef h => q p _ (k p Θ' ho) v F' H' ef.ff (ok.eff ef) h,
    fun e Θ' he F' H' d us ef hd hf => x e Θ' he σ F' H' (ok.eff ef) (env.mono ef.ff) d us hd hf⟩
theorem okf_lent (fh : Same F H) (hc : CellsAt F H Θ) (ho : ∀ c ∈ Θ, c.own = true) : OkF ⟨F, minusL H (Θ.map Cel.a), []⟩ Θ F H := by
  refine ⟨fh, Same.refl F, fun a o h => .inl ⟨o, h⟩, fun a o _ h => ?_, fun a o h => ?_, hc.1, fun c hm => ?_⟩
  · have h : minusL H (Θ.map Cel.a) a = some o := h
    unfold minusL at h
    split at h
    · cases h
    · exact h
  · have h : minusL H (Θ.map Cel.a) a = some o := h
    unfold minusL at h
    split at h
    · cases h
    · exact ⟨o, h⟩
  · obtain ⟨h1, h2⟩ := hc.2 c hm
    refine ⟨h1, h2, ?_⟩
    rw [if_pos (ho c hm)]
    show minusL H (Θ.map Cel.a) c.a = none
    unfold minusL
    rw [if_pos (List.mem_map.mpr ⟨c, hm, rfl⟩)]
/-- Θ'' holds the cells Θ' (and others, which are let go) -/
theorem eff_of {Θ'' Θx : List Cel} (hc : CellsAt F H Θ) (ok : OkF ⟨F, minusL H (Θ.map Cel.a), []⟩ Θ'' F' H') (pm : Θ''.Perm (Θ' ++ Θx)) (tg : Θ'.map tagC = Θ.map tagC) : Eff F H Θ F' H' Θ' := by
  refine ⟨fun a o hn h => ok.h0 a o (by simp) ?_, ok.f0, ok.fh, fun a o h => ?_, (ok.perm pm).cellsAt, tg⟩
  · show minusL H (Θ.map Cel.a) a = some o
    unfold minusL
    rw [if_neg hn]
    exact h
  · rcases ok.nw a o h with h' | h' | h'
    · exact .inl h'
    · have h' : minusL H (Θ.map Cel.a) a = none := h'
      unfold minusL at h'
      split at h'
      · rename_i q
        rw [← tag_a tg] at q
        obtain ⟨c, hc', e⟩ := List.mem_map.mp q
        obtain ⟨h1, _⟩ := (ok.perm pm).cellsAt.2 c hc'
        rw [e, h] at h1
        cases h1
      · exact .inr (.inl h')
    · exact .inr (.inr h')
/-- what a def with lent cells returns: the cells Θ' are there then -/
def RetC (fr : Fr) (Q : VK) (tg : List (Addr × Bool)) (out : Vp → List Cel → Prop) : Prop := ∀ p Θ', out p Θ' → Θ'.map tagC = tg → ∀ Θ'' Θx, Θ''.Perm (Θ' ++ Θx) → Rt fr Θ'' Q p
def RseC (fr : Fr) (E : XK) (tg : List (Addr × Bool)) (err : Er → List Cel → Prop) : Prop := ∀ e Θ', err e Θ' → Θ'.map tagC = tg → ∀ Θ'' Θx, Θ''.Perm (Θ' ++ Θx) → ∀ F H d us, OkF fr Θ'' F H → F d = some (.xd us) → FsOk F e.fs us → E (.ref e.C) (some d) H
theorem RetC.fine {fr' : Fr} {tg : List (Addr × Bool)} {out : Vp → List Cel → Prop} (h : RetC fr Q tg out) (l : FrLe fr fr') : RetC fr' Q tg out := fun p Θ' ho ht Θ'' Θx pm => (h p Θ' ho ht Θ'' Θx pm).fine l
theorem RseC.fine {fr' : Fr} {E : XK} {tg : List (Addr × Bool)} {err : Er → List Cel → Prop} (h : RseC fr E tg err) (l : FrLe fr fr') : RseC fr' E tg err := fun e Θ' he ht Θ'' Θx pm F H d us ok => h e Θ' he ht Θ'' Θx pm F H d us (ok.le l)
theorem kr_C {E : XK} {tg : List (Addr × Bool)} {err : Er → List Cel → Prop} {e : Er} {Θx : List Cel} (h : RseC fr E tg err) (he : err e Θ') (ht : Θ'.map tagC = tg) (pm : Θ.Perm (Θ' ++ Θx)) : Kr fr Γ Θ (fun cls d _ H => E cls d H) e := fun σ F H ok env d us hd hf => h e Θ' he ht Θ Θx pm F H d us ok hd hf
end
section
variable {P : Program} {w : World} {K : PySem.W.Frag} {mg : Str → Option Value} {base : Heap} {x m qual : Str} {C : Addr} {st : Stmt} {N ps : List Str} {k : Nat} {pre : PreC}
theorem Src.okC (F : Src K mg x st ps) (S : FnScope N ps (defScope st)) (len : ∀ qs Θ out err, pre qs Θ out err → qs.length = ps.length ∧ ∀ c ∈ Θ, c.own = true)
    (hbody : ∀ (f : Addr) (cdv : Value) (A : Around) (outer : List Env) (s : Shared) (H : Hp) (E : XK) (qs : List Vp) (Θ : List Cel) (out : Vp → List Cel → Prop) (err : Er → List Cel → Prop), Room k (A.deeper (envOfC x (defScope st) s.heap.objs.size f cdv)) → pre qs Θ out err →
      ∃ t, PSs (cxOf CX0 P w K mg base N x (defScope st) f cdv A outer s H E).nox (defBody st) t ∧ ∀ fr Q, RetC fr Q (Θ.map tagC) out → Kn fr (envOf N qs) Θ (t { nx := fun _ H' => Q .non H', rt := Q })) : Def P w K mg base CX0 (k + 1) x ps (spC pre) := by
  refine F.ok S (fun vs H Q E h => ?_) (fun f cdv A outer s H vs Q E hr h => ?_)
  · obtain ⟨F, qs, Θ, out, err, _, _, h2, h3, _⟩ := h
    rw [← Paired.len h2]
    exact (len _ _ _ _ h3).1
  · obtain ⟨F, qs, Θ, out, err, h1, hc, h2, h3, h4, h5⟩ := h
    obtain ⟨t, ht, hk⟩ := hbody f cdv A outer s H E qs Θ out err hr h3
    exact ⟨t, ht, hk ⟨F, minusL H (Θ.map Cel.a), []⟩ Q (fun p Θ' ho tg Θ'' Θx pm v F' H' ok hv => h4 p Θ' ho v F' H' (eff_of hc ok pm tg) hv) _ F H (okf_lent h1 hc (len _ _ _ _ h3).2) (env_start h2)⟩
theorem Src.okCX (F : Src K mg x st ps) (S : FnScope N ps (defScope st)) (len : ∀ qs Θ out err, pre qs Θ out err → qs.length = ps.length ∧ ∀ c ∈ Θ, c.own = true)
    (hbody : ∀ (f : Addr) (cdv : Value) (A : Around) (outer : List Env) (s : Shared) (H : Hp) (E : XK) (qs : List Vp) (Θ : List Cel) (out : Vp → List Cel → Prop) (err : Er → List Cel → Prop), Room k (A.deeper (envOfC x (defScope st) s.heap.objs.size f cdv)) → pre qs Θ out err →
      ∃ t, PSs (cxOf (L2.CX P w) P w K mg base N x (defScope st) f cdv A outer s H E) (defBody st) t ∧ ∀ fr Q, RetC fr Q (Θ.map tagC) out → RseC fr E (Θ.map tagC) err → Kn fr (envOf N qs) Θ (t { nx := fun _ H' => Q .non H', rt := Q })) : Def P w K mg base (L2.CX P w) (k + 1) x ps (spC pre) := by
  refine F.okX S (fun vs H Q E h => ?_) (fun f cdv A outer s H vs Q E hr h => ?_)
  · obtain ⟨F, qs, Θ, out, err, _, _, h2, h3, _⟩ := h
    rw [← Paired.len h2]
    exact (len _ _ _ _ h3).1
  · obtain ⟨F, qs, Θ, out, err, h1, hc, h2, h3, h4, h5⟩ := h
    obtain ⟨t, ht, hk⟩ := hbody f cdv A outer s H E qs Θ out err hr h3
    exact ⟨t, ht, hk ⟨F, minusL H (Θ.map Cel.a), []⟩ Q (fun p Θ' ho tg Θ'' Θx pm v F' H' ok hv => h4 p Θ' ho v F' H' (eff_of hc ok pm tg) hv) (fun e Θ' he tg Θ'' Θx pm F' H' d us ok hd hf => h5 e Θ' he F' H' d us (eff_of hc ok pm tg) hd hf) _ F H (okf_lent h1 hc (len _ _ _ _ h3).2) (env_start h2)⟩
theorem SrcM.okCX (F : SrcM K C m qual st ps) (S : FnScope N ps (defScope st)) (len : ∀ qs Θ out err, pre qs Θ out err → qs.length = ps.length ∧ ∀ c ∈ Θ, c.own = true)
    (hbody : ∀ (f : Addr) (cdv : Value) (A : Around) (outer : List Env) (s : Shared) (H : Hp) (E : XK) (qs : List Vp) (Θ : List Cel) (out : Vp → List Cel → Prop) (err : Er → List Cel → Prop), Room k (A.deeper (envOfC qual (defScope st) s.heap.objs.size f cdv)) → pre qs Θ out err →
      ∃ t, PSs (cxOf (L2.CX P w) P w K mg base N qual (defScope st) f cdv A outer s H E) (defBody st) t ∧ ∀ fr Q, RetC fr Q (Θ.map tagC) out → RseC fr E (Θ.map tagC) err → Kn fr (envOf N qs) Θ (t { nx := fun _ H' => Q .non H', rt := Q })) : DefM P w K mg base (L2.CX P w) (k + 1) C m ps (spC pre) := by
  refine F.okX S (fun vs H Q E h => ?_) (fun f cdv A outer s H vs Q E hr h => ?_)
  · obtain ⟨F, qs, Θ, out, err, _, _, h2, h3, _⟩ := h
    rw [← Paired.len h2]
    exact (len _ _ _ _ h3).1
  · obtain ⟨F, qs, Θ, out, err, h1, hc, h2, h3, h4, h5⟩ := h
    obtain ⟨t, ht, hk⟩ := hbody f cdv A outer s H E qs Θ out err hr h3
    exact ⟨t, ht, hk ⟨F, minusL H (Θ.map Cel.a), []⟩ Q (fun p Θ' ho tg Θ'' Θx pm v F' H' ok hv => h4 p Θ' ho v F' H' (eff_of hc ok pm tg) hv) (fun e Θ' he tg Θ'' Θx pm F' H' d us ok hd hf => h5 e Θ' he F' H' d us (eff_of hc ok pm tg) hd hf) _ F H (okf_lent h1 hc (len _ _ _ _ h3).2) (env_start h2)⟩
theorem SrcM.okC (F : SrcM K C m qual st ps) (S : FnScope N ps (defScope st)) (len : ∀ qs Θ out err, pre qs Θ out err → qs.length = ps.length ∧ ∀ c ∈ Θ, c.own = true)
    (hbody : ∀ (f : Addr) (cdv : Value) (A : Around) (outer : List Env) (s : Shared) (H : Hp) (E : XK) (qs : List Vp) (Θ : List Cel) (out : Vp → List Cel → Prop) (err : Er → List Cel → Prop), Room k (A.deeper (envOfC qual (defScope st) s.heap.objs.size f cdv)) → pre qs Θ out err →
      ∃ t, PSs (cxOf CX0 P w K mg base N qual (defScope st) f cdv A outer s H E).nox (defBody st) t ∧ ∀ fr Q, RetC fr Q (Θ.map tagC) out → Kn fr (envOf N qs) Θ (t { nx := fun _ H' => Q .non H', rt := Q })) : DefM P w K mg base CX0 (k + 1) C m ps (spC pre) := by
  refine F.ok S (fun vs H Q E h => ?_) (fun f cdv A outer s H vs Q E hr h => ?_)
  · obtain ⟨F, qs, Θ, out, err, _, _, h2, h3, _⟩ := h
    rw [← Paired.len h2]
    exact (len _ _ _ _ h3).1
  · obtain ⟨F, qs, Θ, out, err, h1, hc, h2, h3, h4, h5⟩ := h
    obtain ⟨t, ht, hk⟩ := hbody f cdv A outer s H E qs Θ out err hr h3
    exact ⟨t, ht, hk ⟨F, minusL H (Θ.map Cel.a), []⟩ Q (fun p Θ' ho tg Θ'' Θx pm v F' H' ok hv => h4 p Θ' ho v F' H' (eff_of hc ok pm tg) hv) _ F H (okf_lent h1 hc (len _ _ _ _ h3).2) (env_start h2)⟩
end
end L2
set_option Elab.async false
set_option linter.all false
set_option maxRecDepth 100000
set_option maxHeartbeats 4000000
namespace L2
open PySem PySem.Spec PyProof.Rows PySem.HErr
def zTy (n : String) : Vp := ⟨fun _ v => v = .ty n, fun _ h => h⟩
section
variable {fr : Fr} {Γ Γ' : Gam} {Θ Θ' : List Cel} {F F' H H' : Hp} {K : Vp → List Cel → Prop} {Q : VK} {Kf : PySem.W.Frag}
theorem we_cT {n : String} (k : K (zTy n) Θ) : We fr Γ Θ (tC (.ty n)) K := we_c (fun _ => rfl) k
theorem we_cR {a : Addr} (k : K (zAt a) Θ) : We fr Γ Θ (tC (.ref a)) K := we_c (fun _ => rfl) k
def TyP (fr : Fr) (Θ : List Cel) (Kf : PySem.W.Frag) (p : Vp) (t : Value) : Prop := ∀ F H v, OkF fr Θ F H → p.p F v → TyX Kf H v t
theorem ty_L {α : Type} {r : Rep α} {xs : List α} : TyP fr Θ Kf (iz (zL r) xs) (.type "list") := fun F H v ok ⟨a, vs, h1, h2, h3⟩ => by subst h1; exact .base (.lst (ok.fh _ _ h2))
theorem ty_T {α : Type} [TNar α] {r : Rep α} {xs : List α} : TyP fr Θ Kf (iz (zT r) xs) (.type "tuple") := fun F H v ok ⟨a, vs, h1, h2, h3⟩ => by
  subst h1
  rcases h2 with h2 | ⟨_, o, h2, _⟩
  · exact .base (.tup (ok.fh _ _ h2))
  · exact .fTuple (ok.fh _ _ h2)
theorem ty_2 {α β : Type} {r : Rep α} {s : Rep β} {x : α × β} : TyP fr Θ Kf (iz (z2 r s) x) (.type "tuple") := fun F H v ok ⟨a, u, w, h1, h2, h3⟩ => by subst h1; exact .base (.tup (ok.fh _ _ h2))
theorem ty_I {n : Int} : TyP fr Θ Kf (iz zI n) (.type "int") := fun F H v ok h => by cases (show v = V.int n from h); exact .base (.int _)
theorem ty_B {n : Bool} : TyP fr Θ Kf (iz zB n) (.type "bool") := fun F H v ok h => by cases (show v = V.bl n from h); exact .base (.bl _)
theorem ty_S {n : Str} : TyP fr Θ Kf (iz zS n) (.type "str") := fun F H v ok h => by cases h.1; exact .base (.str _)
theorem cb_isi {p : Vp} {a n : String} {b : Bool} (h : TyP fr Θ Kf p (.type a)) (e : kitB a n = some b) (k : K (iz zB b) Θ) : Cbs fr Θ (rIsi Kf) [p, zTy n] K := fun F H vs ok hps Q q => by
  cases hps with
  | cons h1 hp => cases hp with
    | cons h2 hp => cases hp with
      | nil =>
        have h2 : _ = V.ty n := h2
        subst h2
        exact ⟨_, _, _, _, b, rfl, .ty _, h F H _ ok h1, kit_ty e, q.go k ok rfl⟩
theorem kit_ll : kitB "list" "list" = some true := by decide +kernel
theorem kit_tt : kitB "tuple" "tuple" = some true := by decide +kernel
theorem kit_ii : kitB "int" "int" = some true := by decide +kernel
theorem kit_ib : kitB "int" "bool" = some false := by decide +kernel
theorem kit_bb : kitB "bool" "bool" = some true := by decide +kernel
theorem kit_ss : kitB "str" "str" = some true := by decide +kernel
theorem im_t {b : Bool} {t : TT} {c : Bool} (h : b = true → Et fr Γ Θ t c) : b = true → Et fr Γ Θ t c := h
theorem im_f {b : Bool} {t : TT} {c : Bool} (h : b = false → Et fr Γ Θ t c) : b = false → Et fr Γ Θ t c := h
theorem im_tv {b : Bool} {t : TE} {p : Vp} (h : b = true → Ev fr Γ Θ t p) : b = true → Ev fr Γ Θ t p := h
theorem im_fv {b : Bool} {t : TE} {p : Vp} (h : b = false → Ev fr Γ Θ t p) : b = false → Ev fr Γ Θ t p := h
end
end L2
set_option Elab.async false
set_option linter.all false
set_option maxRecDepth 100000
set_option maxHeartbeats 4000000
namespace L2
open PySem PySem.Spec PyProof.Rows PySem.HErr
abbrev PreN := List Vp → (Vp → List Cel → Prop) → (Er → Prop) → Prop
def spN (pre : PreN) : Sp := fun vs H Q E => ∃ F ps out err, Same F H ∧ Paired (fun (p : Vp) v => p.p F v) ps vs ∧ pre ps out err ∧
  (∀ p Θn, out p Θn → ∀ v F' H', Same H H' → Same F F' → Same F' H' → Newer F H F' → CellsAt F' H' Θn → (∀ c ∈ Θn, H c.a = none ∧ c.own = true) → p.p F' v → Q v H') ∧ PErs F H E err
section
variable {fr : Fr} {Γ Γ' : Gam} {Θ Θ' Θn : List Cel} {F F' H H' : Hp} {K : Vp → List Cel → Prop} {Q : VK}
theorem OkF.more (k : OkF fr Θ F H) (hh : Same H H') (ff : Same F F') (fh : Same F' H') (nw : Newer F H F') (ca : CellsAt F' H' Θn) (hn : ∀ c ∈ Θn, H c.a = none ∧ c.own = true) : OkF fr (Θn ++ Θ) F' H' := by
  have g := k.grow hh ff fh nw
  refine ⟨g.fh, g.f0, g.nw, g.h0, g.al, ?_, fun c hc => ?_⟩
  · rw [List.map_append, List.nodup_append]
    refine ⟨ca.1, g.nd, fun a ha b hb e => ?_⟩
    obtain ⟨c, hc, rfl⟩ := List.mem_map.mp ha
    obtain ⟨d, hd, rfl⟩ := List.mem_map.mp hb
    obtain ⟨_, ⟨o, h2, _⟩, _⟩ := k.ce d hd
    have h1 : H c.a = none := (hn c hc).1
    rw [e, h2] at h1
    cases h1
  · rcases List.mem_append.mp hc with hc | hc
    · obtain ⟨h1, h2⟩ := ca.2 c hc
      obtain ⟨h3, h4⟩ := hn c hc
      exact ⟨h1, h2, by rw [if_pos h4]; exact k.h0n h3⟩
    · exact g.ce c hc
theorem sps_N {pre : PreN} {E : L2.St → XK} {ps : List Vp} {out : Vp → List Cel → Prop} {err : Er → Prop} (hp : pre ps out err) (k : ∀ p Θn, out p Θn → K p (Θn ++ Θ)) (x : ∀ e, err e → Kr fr Γ Θ (fun cls d σ H => E σ cls d H) e) : Sps fr Γ Θ (spN pre) E ps K := fun σ F H vs ok env hps Q q =>
  ⟨F, ps, out, err, ok.fh, hps, hp, fun p Θn ho v F' H' hh ff fh nw ca hn h => q p _ (k p Θn ho) v F' H' ff (ok.more hh ff fh nw ca hn) h,
    fun e he F' H' d us hh ff fh nw hd hf => x e he σ F' H' (ok.grow hh ff fh nw) (env.mono ff) d us hd hf⟩
def RetN (fr : Fr) (Q : VK) (out : Vp → List Cel → Prop) : Prop := ∀ p Θn, out p Θn → (∀ c ∈ Θn, c.own = true) → ∀ Θ'' Θx, Θ''.Perm (Θn ++ Θx) → Rt fr Θ'' Q p
theorem RetN.fine {fr' : Fr} {out : Vp → List Cel → Prop} (h : RetN fr Q out) (l : FrLe fr fr') : RetN fr' Q out := fun p Θn ho hn Θ'' Θx pm => (h p Θn ho hn Θ'' Θx pm).fine l
end
section
variable {P : Program} {w : World} {K : PySem.W.Frag} {mg : Str → Option Value} {base : Heap} {x m qual : Str} {C : Addr} {st : Stmt} {N ps : List Str} {k : Nat} {pre : PreN}
theorem retN_of {F H : Hp} {Q : VK} {out : Vp → List Cel → Prop} (h4 : ∀ p Θn, out p Θn → ∀ v F' H', Same H H' → Same F F' → Same F' H' → Newer F H F' → CellsAt F' H' Θn → (∀ c ∈ Θn, H c.a = none ∧ c.own = true) → p.p F' v → Q v H') : RetN ⟨F, H, []⟩ Q out := fun p Θn ho hn Θ'' Θx pm v F' H' ok hv => by
  have ok2 := ok.perm pm
  obtain ⟨a, b, c, d⟩ := ok.post
  refine h4 p Θn ho v F' H' a b c d ok2.cellsAt (fun e he => ⟨?_, hn e he⟩) hv
  have := (ok2.ce e (List.mem_append_left _ he)).2.2
  rw [if_pos (hn e he)] at this
  exact this
theorem Src.okN (F : Src K mg x st ps) (S : FnScope N ps (defScope st)) (len : ∀ qs out err, pre qs out err → qs.length = ps.length)
    (hbody : ∀ (f : Addr) (cdv : Value) (A : Around) (outer : List Env) (s : Shared) (H : Hp) (E : XK) (qs : List Vp) (out : Vp → List Cel → Prop) (err : Er → Prop), Room k (A.deeper (envOfC x (defScope st) s.heap.objs.size f cdv)) → pre qs out err →
      ∃ t, PSs (cxOf CX0 P w K mg base N x (defScope st) f cdv A outer s H E).nox (defBody st) t ∧ ∀ fr Q, RetN fr Q out → Kn fr (envOf N qs) [] (t { nx := fun _ H' => Q .non H', rt := Q })) : Def P w K mg base CX0 (k + 1) x ps (spN pre) := by
  refine F.ok S (fun vs H Q E h => ?_) (fun f cdv A outer s H vs Q E hr h => ?_)
  · obtain ⟨F, qs, out, err, _, h2, h3, _⟩ := h
    rw [← Paired.len h2]
    exact len _ _ _ h3
  · obtain ⟨F, qs, out, err, h1, h2, h3, h4, h5⟩ := h
    obtain ⟨t, ht, hk⟩ := hbody f cdv A outer s H E qs out err hr h3
    exact ⟨t, ht, hk _ Q (retN_of h4) _ F H (OkF.start h1) (env_start h2)⟩
end
section
variable {fr : Fr} {Γ Γ' : Gam} {Θ Θ' Θn : List Cel} {F F' H H' : Hp} {K : Vp → List Cel → Prop} {Q : VK}
/-- the value as it stood in F0 -/
def pin (F0 : Hp) (p : Vp) : Vp := ⟨fun _ v => p.p F0 v, fun _ h => h⟩
/-- the object at a, and what it is just now -/
def zBoth (a : Addr) (q : Vp) : Vp := ⟨fun F v => v = .ref a ∧ q.p F v, fun e ⟨h1, h2⟩ => ⟨h1, q.mono e h2⟩⟩
/-- Fc: F0 and the contents of the cells Θb -/
structure Lend (fr : Fr) (Θb : List Cel) (F0 Fc : Hp) : Prop where
  s : Same F0 Fc
  f0 : Same fr.F0 F0
  nw : ∀ a o, F0 a = some o → Nwr fr.F0 fr.H0 a o
  nc : ∀ a o, Fc a = some o → (∃ o', F0 a = some o') ∨ a ∈ Θb.map Cel.a
  nd : (Θb.map Cel.a).Nodup
  ce : ∀ c ∈ Θb, F0 c.a = none ∧ (∃ o, Fc c.a = some o ∧ c.φ F0 o) ∧ c.own = true ∧ fr.H0 c.a = none
theorem we_varP {Θb : List Cel} {F0 Fc : Hp} {B : List Addr} {H0 : Hp} {p : Vp} {i : Nat} (hl : Lend fr Θb F0 Fc) (h : Γ[i]? = some (some (pin F0 p))) (k : K p Θ) : We ⟨Fc, H0, B⟩ Γ Θ (tVar i) K := fun σ F H ok env Q q => by
  obtain ⟨v, h1, h2⟩ := env.get h
  exact ⟨v, h1, q.go k ok (p.mono (hl.s.trans ok.f0) h2)⟩
theorem we_varB {a : Addr} {p : Vp} {i : Nat} (h : Γ[i]? = some (some (zBoth a p))) (k : K p Θ) : We fr Γ Θ (tVar i) K := fun σ F H ok env Q q => by
  obtain ⟨v, h1, h2⟩ := env.get h
  exact ⟨v, h1, q.go k ok h2.2⟩
/-- a list, lent -/
theorem Lend.lst {α : Type} {r : Rep α} {G : Addr} {xs : List α} {Θx : List Cel} {F0 Fc : Hp} (hl : Lend fr (cL G r xs :: Θx) F0 Fc) : ∀ F v, Same Fc F → (zAt G).p F0 v → (zBoth G (iz (zL r) xs)).p F v := fun F v hs hv => by
  have hv : v = .ref G := hv
  subst hv
  obtain ⟨_, ⟨o, h2, vs, rfl, h3⟩, _⟩ := hl.ce _ (.head _)
  exact ⟨rfl, G, vs, rfl, hs _ _ h2, Paired.imp2 (fun _ _ h => r.mono (hl.s.trans hs) h) h3⟩
end
end L2
set_option Elab.async false
set_option linter.all false
set_option maxRecDepth 100000
set_option maxHeartbeats 4000000
namespace L2
open PySem PySem.Spec PyProof.Rows PySem.HErr
abbrev PreB := List Vp → (Vp → Prop) → Prop
section
variable {fr : Fr} {Γ Γ' : Gam} {Θ Θ' Θn : List Cel} {F F' H H' : Hp} {K : Vp → List Cel → Prop} {Q : VK}
theorem perm_of_mem {c : Cel} (h : c ∈ Θ) : ∃ Θr, Θ.Perm ([c] ++ Θr) := by
  obtain ⟨s, t, rfl⟩ := List.append_of_mem h
  exact ⟨s ++ t, List.perm_middle⟩
def RetB (fr : Fr) (Q : VK) (b l : Addr) (o : Vp → Prop) : Prop := ∀ p, o p → ∀ Θ, cBox true b l ∈ Θ → Rt fr Θ Q p
theorem RetB.fine {fr' : Fr} {b l : Addr} {o : Vp → Prop} (h : RetB fr Q b l o) (le : FrLe fr fr') : RetB fr' Q b l o := fun p hp Θ hc => (h p hp Θ hc).fine le
end
/-- a list of two things -/
def zLp {α β : Type} (r : Rep α) (s : Rep β) : Rep (α × β) := ⟨fun F v x => ∃ a u w, v = .ref a ∧ F a = some (.lst [u, w]) ∧ r.p F u x.1 ∧ s.p F w x.2, fun e ⟨a, u, w, h1, h2, h3, h4⟩ => ⟨a, u, w, h1, e _ _ h2, r.mono e h3, s.mono e h4⟩⟩
section
variable {fr : Fr} {Γ : Gam} {Θ : List Cel} {K : Vp → List Cel → Prop}
theorem we_lstp {α β : Type} {r : Rep α} {s : Rep β} {t : TA} (w : Wa fr Γ Θ t fun ps Θ1 => ∃ x y, ps = [iz r x, iz s y] ∧ K (iz (zLp r s) (x, y)) Θ1) : We fr Γ Θ (tLst t) K := fun σ F H ok env Q q =>
  w σ F H ok env _ fun ps Θ1 ⟨x, y, e, k⟩ vs F1 H1 s1 ok1 hps => ⟨small_len hps (by rw [e]; simp), fun a na => by
    subst e
    have hps := ps_mono (ok1.sameF (o := .lst vs) na) hps
    cases hps with
    | cons h1 hp => cases hp with
      | cons h2 hp => cases hp with
        | nil => exact (q.mono s1).new k ok1 na ⟨a, _, _, rfl, upd_same, h1, h2⟩⟩
end
theorem cutX_drop {α : Type} (xs : List α) (n : Nat) : cutX xs (some (n : Int)) none = xs.drop n := by
  unfold cutX
  rw [HT.sIx_none, HT.sIx_nat]
  by_cases h : n ≤ xs.length
  · rw [Nat.min_eq_left h]
    exact List.take_of_length_le (by rw [List.length_drop]; exact Nat.le_refl _)
  · rw [Nat.min_eq_right (by omega), List.drop_length, List.drop_of_length_le (by omega), List.take_nil]
theorem cutX_take {α : Type} (xs : List α) (n : Nat) : cutX xs none (some (n : Int)) = xs.take n := by
  unfold cutX
  rw [HT.sIx_none, HT.sIx_nat]
  show List.take (min n xs.length - 0) (List.drop 0 xs) = _
  rw [List.drop_zero, Nat.sub_zero, Nat.min_comm]
  by_cases h : n ≤ xs.length
  · rw [Nat.min_eq_right h]
  · rw [Nat.min_eq_left (by omega), List.take_length, List.take_of_length_le (by omega)]
end L2
set_option Elab.async false
set_option linter.all false
set_option maxRecDepth 100000
set_option maxHeartbeats 4000000
namespace L2
open PySem PySem.Spec PyProof.Rows PySem.HErr
section
variable {fr : Fr} {Γ Γ' : Gam} {Θ : List Cel} {F F' H H' : Hp} {K : Vp → List Cel → Prop} {Q : VK}
theorem tyl_L {α : Type} {r : Rep α} {xs : List α} {Kf : PySem.W.Frag} : ∀ F H v, OkF fr Θ F H → (iz (zL r) xs).p F v → tyV Kf "list" v H := fun F H v ok ⟨a, vs, h1, h2, _⟩ => by
  subst h1
  exact .inl ⟨rfl, vs, SqL.of (ok.fh _ _ h2)⟩
theorem eqV_str {a b : Str} : eqV (.str a) (.str b) = decide (a = b) := by
  unfold eqV
  rfl
theorem mts_index {Kf : PySem.W.Frag} {xs : List Str} {x : Str} (hx : x ∈ xs) (k : K (iz zI (xs.idxOf x : Nat)) Θ) : Mts fr Θ (rIndex Kf) (iz (zL zS) xs) [iz zS x] K := fun F H v vs ok hv hps Q q => by
  obtain ⟨a, us, rfl, h2, h3⟩ := hv
  obtain ⟨rfl, _⟩ := pvs_S h3
  cases hps with
  | cons h1 hp => cases hp with
    | nil =>
      obtain ⟨rfl, ha⟩ := h1
      have hl : xs.idxOf x < xs.length := List.idxOf_lt_length_iff.mpr hx
      refine ⟨a, _, _, xs.idxOf x, .str x, rfl, rfl, SqL.of (ok.fh _ _ h2), rfl, ?_, ?_, ?_, fun m z hm hz => ?_, q.go k ok rfl⟩
      · rw [List.all_map, List.all_eq_true]
        intro y hy
        rfl
      · rw [List.getElem?_map, List.getElem?_eq_getElem hl, List.getElem_idxOf]
        rfl
      · rw [eqV_str]
        exact decide_eq_true rfl
      · rw [List.getElem?_map, List.getElem?_eq_getElem (by omega)] at hz
        cases hz
        rw [eqV_str]
        have := List.not_of_lt_findIdx hm
        exact decide_eq_false (by simpa using this)
theorem tyl_S {x : Str} {Kf : PySem.W.Frag} : ∀ F H v, OkF fr Θ F H → (iz zS x).p F v → tyV Kf "str" v H := fun F H v ok ⟨h1, _⟩ => by
  subst h1
  exact rfl
def optP {α : Type} (r : Rep α) : Option α → Vp
  | none => zNon
  | some x => iz r x
class NotNon {α : Type} (r : Rep α) : Prop where
  nn : ∀ F v x, r.p F v x → v ≠ .non
instance {α : Type} {r : Rep α} : NotNon (zL r) := ⟨fun F v x ⟨a, vs, h, _⟩ => by rw [h]; exact fun q => by cases q⟩
instance {α : Type} [TNar α] {r : Rep α} : NotNon (zT r) := ⟨fun F v x ⟨a, vs, h, _⟩ => by rw [h]; exact fun q => by cases q⟩
instance {α β : Type} {r : Rep α} {s : Rep β} : NotNon (z2 r s) := ⟨fun F v x ⟨a, u, w, h, _⟩ => by rw [h]; exact fun q => by cases q⟩
instance {α β γ : Type} {r : Rep α} {s : Rep β} {t : Rep γ} : NotNon (z3 r s t) := ⟨fun F v x ⟨a, u, w, z, h, _⟩ => by rw [h]; exact fun q => by cases q⟩
instance : NotNon zI := ⟨fun F v x h => by rw [show v = .int x from h]; exact fun q => by cases q⟩
instance : NotNon zS := ⟨fun F v x h => by rw [h.1]; exact fun q => by cases q⟩
theorem ops_isO {α : Type} {r : Rep α} [NotNon r] {o : Option α} (k : K (iz zB o.isNone) Θ) : Ops fr Θ (fun x y H Q => y = .non ∧ Q (.bl (decide (x = .non))) H) (optP r o) zNon K := fun F H v w ok hv hw Q q => by
  refine ⟨hw, q.go k ok ?_⟩
  show V.bl _ = V.bl _
  cases o with
  | none => rw [show v = .non from hv]; rfl
  | some x => rw [decide_eq_false (NotNon.nn F v x hv)]; rfl
theorem ops_notO {α : Type} {r : Rep α} [NotNon r] {o : Option α} (k : K (iz zB o.isSome) Θ) : Ops fr Θ (fun x y H Q => y = .non ∧ Q (.bl (!decide (x = .non))) H) (optP r o) zNon K := fun F H v w ok hv hw Q q => by
  refine ⟨hw, q.go k ok ?_⟩
  show V.bl _ = V.bl _
  cases o with
  | none => rw [show v = .non from hv]; rfl
  | some x => rw [decide_eq_false (NotNon.nn F v x hv)]; rfl
theorem ops_isX {α : Type} {r : Rep α} [NotNon r] {x : α} (k : K (iz zB false) Θ) : Ops fr Θ (fun x y H Q => y = .non ∧ Q (.bl (decide (x = .non))) H) (iz r x) zNon K := ops_isO (o := some x) k
theorem ops_notX {α : Type} {r : Rep α} [NotNon r] {x : α} (k : K (iz zB true) Θ) : Ops fr Θ (fun x y H Q => y = .non ∧ Q (.bl (!decide (x = .non))) H) (iz r x) zNon K := ops_notO (o := some x) k
theorem ops_isN (k : K (iz zB true) Θ) : Ops fr Θ (fun x y H Q => y = .non ∧ Q (.bl (decide (x = .non))) H) zNon zNon K := ops_isO (r := zI) (o := none) k
theorem ops_notN (k : K (iz zB false) Θ) : Ops fr Θ (fun x y H Q => y = .non ∧ Q (.bl (!decide (x = .non))) H) zNon zNon K := ops_notO (r := zI) (o := none) k
end
section
variable {X : Cx} {K : PySem.W.Frag} {o e : Expr} {es : List Expr} {to : TE} {t : TA} {name : Str} {apos cpos : Pos} {T id : String} {r : V → List V → Hp → VK → Prop}
theorem kpe_bm (pa : PlainAttrs T) (slot : Slot T name id) (hty : typeOf (.builtin id) = pure (.type "method_descriptor")) (hm : MtR X id r) (ho : PE X o to) (ha : PA X (e :: es) t)
    (hbase : attributeBase o name X.env (eval o X.env) = eval o X.env := by rfl)
    (hfew : ((backTo cpos (starEach (e :: es) X.env)).all (fun x => !x.1) && (backToKw cpos (keywordEach [] X.env)).all (fun x => x.1.isSome)
      && decide ((e :: es).length + ([] : List Keyword).length + (if ([] : List Keyword).isEmpty then 0 else 1) < 30)) = true := by rfl)
    (hline : (apos.endLine == cpos.line) = true := by rfl) (hs : starEach (e :: es) X.env = (false, eval e X.env) :: starEach es X.env := by rfl) (hplain : (backTo cpos (starEach es X.env)).any (·.1) = false := by rfl) (h : X.K = K := by rfl) :
    PE X (.Call (.Attribute o name apos) (e :: es) [] cpos) (tBM K T r to t) := h ▸ pe_bm pa slot hty hm ho ha hbase hfew hline hs hplain
theorem kmt_index (h : X.K = K := by rfl) : MtR X "list.index" (rIndex K) := h ▸ mt_index
end
end L2
set_option Elab.async false
set_option linter.all false
set_option maxRecDepth 100000
set_option maxHeartbeats 4000000
namespace L2
open PySem PySem.Spec PyProof.Rows PySem.HErr
section
variable {X : Cx} {CX : CXT} {k : Nat} {C : Addr} {ps : List Str} {sp : Sp} {E : St → XK} {i o : Expr} {ty tp : TE} {x : Str} {p pos : Pos}
theorem run_fnS1 {pins : List (Addr × Obj)} {σ : St} {H : Hp} {s : Shared} {Q : VK} {f : Addr} {fd : FuncData} {us : List Value} {vs : List V} (F : FnOk X.prog X.w X.K X.mg X.base CX k f fd ps sp) (hr : Room (k + 1) X.A) (hb : Binds X.K fd ps []) (hx : PassesAt CX X σ (E σ))
    (I : Inv X pins σ H s) (r : Vals vs us) (h : sp vs H Q (E σ)) : wpAny (model X.prog X.w) X.A.in1 (call (.ref f) us) (EP X pins σ Q) X.xe s := by
  have hl : us.length = ps.length := by rw [← r.length]; exact F.len _ _ _ _ h
  have b := hb s us I.kIn (by rw [List.append_nil]; exact hl)
  rw [List.append_nil] at b
  refine wpAny_call (codeAny_mono (F.run X.A.in1 X.stack s H ⟨us, []⟩ us vs Q (E σ) hr.in1 I.env0.in1 b r h) fun r s' hq => ?_)
  cases r with
  | error e => exact hx pins H s e s' I hq
  | ok fl =>
    cases fl with
    | ret u => exact I.after hq
    | next => exact False.elim hq
    | brk => exact False.elim hq
    | cont => exact False.elim hq
end
end L2
set_option Elab.async false
set_option linter.all false
set_option maxRecDepth 100000
set_option maxHeartbeats 4000000
namespace L2
open PySem PySem.Spec PyProof.Rows PySem.HErr
/-- an instance of the class at C -/
def InsC (fr : Fr) (Θ : List Cel) (p : Vp) (C : Addr) : Prop := ∀ F H v, OkF fr Θ F H → p.p F v → ∃ a dx fs, v = .ref a ∧ H a = some (.ins C dx fs)
section
variable {fr : Fr} {Γ Γ' : Gam} {Θ : List Cel} {F F' H H' : Hp} {K : Vp → List Cel → Prop} {Q : VK} {C : Addr} {sp : Sp} {E : L2.St → XK} {ta tb : TE}
theorem InsP.c {p : Vp} {m : Str} (h : InsP fr Θ p C m) : InsC fr Θ p C := fun F H v ok hv => by
  obtain ⟨a, dx, fs, h1, h2, _⟩ := h F H v ok hv
  exact ⟨a, dx, fs, h1, h2⟩
end
section
variable {fr : Fr} {Γ Γ' : Gam} {Θ : List Cel} {F F' H H' : Hp} {K : Vp → List Cel → Prop} {Q : VK}
theorem kpt_truth {X : Cx} {Kf : PySem.W.Frag} {a : Expr} {ta : TE} (ha : PE X a ta) (he : ∀ whole, isTrue a X.env whole = (do let v ← whole; standAt a.pos; holding [v] (truthy v))) (h : X.K = Kf := by rfl) : PT X a (tTru Kf ta) := h ▸ pt_truth ha he
/-- a value's truth -/
def TruP (fr : Fr) (Θ : List Cel) (Kf : PySem.W.Frag) (p : Vp) (b : Bool) : Prop := ∀ F H v, OkF fr Θ F H → p.p F v → TruV Kf v H b
theorem wt_tru {Kf : PySem.W.Frag} {t : TE} {Kb' : Bool → List Cel → Prop} (w : We fr Γ Θ t fun p Θ1 => ∃ b, TruP fr Θ1 Kf p b ∧ Kb' b Θ1) : Wt fr Γ Θ (tTru Kf t) Kb' := fun σ F H ok env Q q =>
  w σ F H ok env _ fun p Θ1 ⟨b, ht, kk⟩ v F1 H1 s1 ok1 hp => ⟨b, ht F1 H1 v ok1 hp, q b Θ1 kk F1 H1 s1 ok1⟩
theorem emp_len {α β : Type} {R : α → β → Prop} {l : List α} {m : List β} (h : Paired R l m) : l.isEmpty = m.isEmpty := by cases h <;> rfl
theorem tru_L {Kf : PySem.W.Frag} {α : Type} {r : Rep α} {xs : List α} : TruP fr Θ Kf (iz (zL r) xs) (!xs.isEmpty) := fun F H v ok ⟨a, vs, h1, h2, h3⟩ => by
  subst h1
  exact .inl ⟨vs, SqL.of (ok.fh _ _ h2), by rw [emp_len h3]⟩
end
end L2
set_option Elab.async false
set_option linter.all false
set_option maxRecDepth 100000
set_option maxHeartbeats 4000000
namespace L2
open PySem PySem.Spec PyProof.Rows PySem.HErr
abbrev big : Nat := 100000
theorem big_line {n : Nat} (h : n ≤ big) : n ≤ sizeLine := Nat.le_trans h (by unfold sizeLine; decide)
theorem big_lt {n : Nat} (h : n ≤ big) : n < sizeLine := Nat.lt_of_le_of_lt h (by unfold sizeLine; decide)
inductive EK where
  | tooMany | badWord | double | badNumber | empty | unknown | inUse | badState | notReady | notSound | badPair | badText | noUndo
  deriving DecidableEq
inductive HE where
  | tooMany (kind : Str) (limit : Int)
  | badWord (w : Str)
  | double (n : Str)
  | badNumber (n : Int)
  | empty (n : Str)
  | unknown (n : Str)
  | inUse (n : Str)
  | badState (ns : List Int)
  | notReady (s p : Str) (i : Int)
  | notSound (d : PyData)
  | badPair (n : Str)
  | badText (n : Int)
  | noUndo
def HE.k : HE → EK
  | .tooMany _ _ => .tooMany
  | .badWord _ => .badWord
  | .double _ => .double
  | .badNumber _ => .badNumber
  | .empty _ => .empty
  | .unknown _ => .unknown
  | .inUse _ => .inUse
  | .badState _ => .badState
  | .notReady _ _ _ => .notReady
  | .notSound _ => .notSound
  | .badPair _ => .badPair
  | .badText _ => .badText
  | .noUndo => .noUndo
/-- what is wanted: of the result, of an error -/
abbrev DM (β : Type) := (β → Prop) → (HE → Prop) → Prop
def noX : HE → Prop := fun _ => False
def ifD (c : Bool) (A B : Prop) : Prop := (c = true → A) ∧ (c = false → B)
def andD (c : Bool) (f : (Bool → Prop) → Prop) (k : Bool → Prop) : Prop := (c = true → f k) ∧ (c = false → k false)
def orD (c : Bool) (f : (Bool → Prop) → Prop) (k : Bool → Prop) : Prop := (c = true → k true) ∧ (c = false → f k)
def joinD {S : Type} (f : (S → Prop) → Prop) (k : S → Prop) : Prop := f k
def forD {α S : Type} : List α → S → (α → S → (S → Prop) → (S → Prop) → Prop) → (S → Prop) → Prop
  | [], s, _, after => after s
  | x :: xs, s, body, after => body x s (fun s' => forD xs s' body after) after
def mapD {α β : Type} : List α → List β → (α → (β → Prop) → Prop) → (List β → Prop) → Prop
  | [], acc, _, k => k acc
  | x :: xs, acc, f, k => f x fun y => mapD xs (acc ++ [y]) f k
def compD {α β : Type} : List α → List β → (α → (Option β → Prop) → Prop) → (List β → Prop) → Prop
  | [], acc, _, k => k acc
  | x :: xs, acc, f, k => f x fun o => compD xs (acc ++ o.toList) f k
def Vp.Le (p q : Vp) : Prop := ∀ F v, p.p F v → q.p F v
theorem Vp.Le.refl (p : Vp) : p.Le p := fun _ _ h => h
def yN : Rep Unit := ⟨fun _ v _ => v = .non, fun _ h => h⟩
def yS : Rep Str := ⟨fun F v x => zS.p F v x ∧ x.length ≤ big, fun e h => ⟨zS.mono e h.1, h.2⟩⟩
def yL {α : Type} (r : Rep α) : Rep (List α) := ⟨fun F v x => (zL r).p F v x ∧ x.length ≤ big, fun e h => ⟨(zL r).mono e h.1, h.2⟩⟩
def yT {α : Type} [TNar α] (r : Rep α) : Rep (List α) := ⟨fun F v x => (zT r).p F v x ∧ x.length ≤ big, fun e h => ⟨(zT r).mono e h.1, h.2⟩⟩
def yD {α : Type} (r : Rep α) : Rep (List (Str × α)) := ⟨fun F v x => (zD r).p F v x ∧ x.length ≤ big, fun e h => ⟨(zD r).mono e h.1, h.2⟩⟩
/-- None or a thing -/
def yO {α : Type} (r : Rep α) : Rep (Option α) := ⟨fun F v x => match x with | none => v = .non | some y => r.p F v y, fun {F F' v x} e h => by
  cases x with
  | none => exact h
  | some y => exact r.mono e h⟩
mutual
def xp (F : Hp) : PyData → V → Prop
  | .none, v => v = .non
  | .int i, v => v = .int i
  | .str x, v => v = .str x ∧ Asc x ∧ x.length ≤ big
  | .list ds, v => ∃ a vs, v = .ref a ∧ F a = some (.lst vs) ∧ ds.length ≤ big ∧ xpAll F ds vs
  | .tuple ds, v => ∃ a vs, v = .ref a ∧ TupB (!isSDs ds) F a vs ∧ ds.length ≤ big ∧ xpAll F ds vs
  | .bool _, _ => False
  | .dict _, _ => False
def xpAll (F : Hp) : List PyData → List V → Prop
  | [], vs => vs = []
  | d :: ds, vs => ∃ v r, vs = v :: r ∧ xp F d v ∧ xpAll F ds r
end
mutual
theorem xp_mono {F F' : Hp} (e : Same F F') : ∀ (d : PyData) (v : V), xp F d v → xp F' d v
  | .none, _, h => by simp only [xp] at h ⊢; exact h
  | .int _, _, h => by simp only [xp] at h ⊢; exact h
  | .str _, _, h => by simp only [xp] at h ⊢; exact h
  | .bool _, _, h => by simp only [xp] at h
  | .dict _, _, h => by simp only [xp] at h
  | .list ds, _, h => by
    simp only [xp] at h ⊢
    obtain ⟨a, vs, h1, h2, h3, h4⟩ := h
    exact ⟨a, vs, h1, e _ _ h2, h3, xpAll_mono e ds vs h4⟩
  | .tuple ds, _, h => by
    simp only [xp] at h ⊢
    obtain ⟨a, vs, h1, h2, h3, h4⟩ := h
    exact ⟨a, vs, h1, h2.mono e, h3, xpAll_mono e ds vs h4⟩
theorem xpAll_mono {F F' : Hp} (e : Same F F') : ∀ (ds : List PyData) (vs : List V), xpAll F ds vs → xpAll F' ds vs
  | [], _, h => by simp only [xpAll] at h ⊢; exact h
  | d :: ds, _, h => by
    simp only [xpAll] at h ⊢
    obtain ⟨v, r, h1, h2, h3⟩ := h
    exact ⟨v, r, h1, xp_mono e d v h2, xpAll_mono e ds r h3⟩
end
def yX : Rep PyData := ⟨fun F v d => xp F d v ∧ d.depth ≤ 60, fun e h => ⟨xp_mono e _ _ h.1, h.2⟩⟩
/-- lists and tuples of a fixed form -/
def zL3 {α β γ : Type} (r : Rep α) (s : Rep β) (t : Rep γ) : Rep (α × β × γ) := ⟨fun F v x => ∃ a u w z, v = .ref a ∧ F a = some (.lst [u, w, z]) ∧ r.p F u x.1 ∧ s.p F w x.2.1 ∧ t.p F z x.2.2, fun e ⟨a, u, w, z, h1, h2, h3, h4, h5⟩ => ⟨a, u, w, z, h1, e _ _ h2, r.mono e h3, s.mono e h4, t.mono e h5⟩⟩
def z4 {α β γ δ : Type} (r : Rep α) (s : Rep β) (t : Rep γ) (u : Rep δ) : Rep (α × β × γ × δ) := ⟨fun F v x => ∃ a v1 v2 v3 v4, v = .ref a ∧ F a = some (.tup [v1, v2, v3, v4]) ∧ r.p F v1 x.1 ∧ s.p F v2 x.2.1 ∧ t.p F v3 x.2.2.1 ∧ u.p F v4 x.2.2.2, fun e ⟨a, v1, v2, v3, v4, h1, h2, h3, h4, h5, h6⟩ => ⟨a, v1, v2, v3, v4, h1, e _ _ h2, r.mono e h3, s.mono e h4, t.mono e h5, u.mono e h6⟩⟩
def z5 {α β γ δ ε : Type} (r : Rep α) (s : Rep β) (t : Rep γ) (u : Rep δ) (w : Rep ε) : Rep (α × β × γ × δ × ε) := ⟨fun F v x => ∃ a v1 v2 v3 v4 v5, v = .ref a ∧ F a = some (.tup [v1, v2, v3, v4, v5]) ∧ r.p F v1 x.1 ∧ s.p F v2 x.2.1 ∧ t.p F v3 x.2.2.1 ∧ u.p F v4 x.2.2.2.1 ∧ w.p F v5 x.2.2.2.2, fun e ⟨a, v1, v2, v3, v4, v5, h1, h2, h3, h4, h5, h6, h7⟩ => ⟨a, v1, v2, v3, v4, v5, h1, e _ _ h2, r.mono e h3, s.mono e h4, t.mono e h5, u.mono e h6, w.mono e h7⟩⟩
def z1 {α : Type} (r : Rep α) : Rep α := ⟨fun F v x => ∃ a v1, v = .ref a ∧ F a = some (.tup [v1]) ∧ r.p F v1 x, fun e ⟨a, v1, h1, h2, h3⟩ => ⟨a, v1, h1, e _ _ h2, r.mono e h3⟩⟩
/-- a list of one's own, of bounded size -/
def cY {α : Type} (a : Addr) (r : Rep α) (xs : List α) : Cel := ⟨a, true, fun F o => (∃ vs, o = .lst vs ∧ PVs r F vs xs) ∧ xs.length ≤ big, fun e ⟨⟨vs, h1, h2⟩, h3⟩ => ⟨⟨vs, h1, Paired.imp2 (fun _ _ h => r.mono e h) h2⟩, h3⟩, fun h e => by subst e; simp at h⟩
theorem le_yS {z : Str} (h : z.length ≤ big) : (iz zS z).Le (iz yS z) := fun _ _ q => ⟨q, h⟩
theorem le_zS {z : Str} : (iz yS z).Le (iz zS z) := fun _ _ q => q.1
theorem le_yL {α : Type} {r : Rep α} {xs : List α} (h : xs.length ≤ big) : (iz (zL r) xs).Le (iz (yL r) xs) := fun _ _ q => ⟨q, h⟩
theorem le_zL {α : Type} {r : Rep α} {xs : List α} : (iz (yL r) xs).Le (iz (zL r) xs) := fun _ _ q => q.1
theorem le_zT {α : Type} [TNar α] {r : Rep α} {xs : List α} : (iz (yT r) xs).Le (iz (zT r) xs) := fun _ _ q => q.1
theorem pvs_imp {α : Type} {r s : Rep α} {F : Hp} {vs : List V} {xs : List α} (h : PVs r F vs xs) (f : ∀ v x, x ∈ xs → r.p F v x → s.p F v x) : PVs s F vs xs := by
  induction h with
  | nil => exact .nil
  | cons a _ ih => exact .cons (f _ _ (List.mem_cons_self ..) a) (ih fun v x hx => f v x (List.mem_cons_of_mem _ hx))
theorem le_TT {α : Type} [TNar α] {r s : Rep α} {xs : List α} (h : xs.length ≤ big) (f : ∀ F v x, x ∈ xs → r.p F v x → s.p F v x) : (iz (zT r) xs).Le (iz (yT s) xs) := fun F v ⟨a, vs, h1, h2, h3⟩ => ⟨⟨a, vs, h1, h2, pvs_imp h3 (f F)⟩, h⟩
theorem le_LLr {α : Type} {r s : Rep α} {xs : List α} (f : ∀ F v x, x ∈ xs → r.p F v x → s.p F v x) : (iz (yL r) xs).Le (iz (zL s) xs) := fun F v ⟨⟨a, vs, h1, h2, h3⟩, _⟩ => ⟨a, vs, h1, h2, pvs_imp h3 (f F)⟩
section
variable {fr : Fr} {Γ Γ' : Gam} {Θ Θ' : List Cel} {F F' H H' : Hp} {K : Vp → List Cel → Prop} {Q : VK}
theorem Kq.conv (h : Kq fr F K Q) : Kq fr F (fun p Θ1 => ∃ q, p.Le q ∧ K q Θ1) Q := fun p Θ' ⟨q, l, k⟩ v F' H' s ok hp => h q Θ' k v F' H' s ok (l _ _ hp)
theorem We.conv {t : TE} (w : We fr Γ Θ t fun p Θ1 => ∃ q, p.Le q ∧ K q Θ1) : We fr Γ Θ t K := fun σ F H ok env Q q => w σ F H ok env Q q.conv
theorem Ops.conv {r : R2} {p q : Vp} (w : Ops fr Θ r p q fun p Θ1 => ∃ q, p.Le q ∧ K q Θ1) : Ops fr Θ r p q K := fun F H v w' ok h1 h2 Q k => w F H v w' ok h1 h2 Q k.conv
theorem Cbs.conv {r : List V → Hp → VK → Prop} {ps : List Vp} (w : Cbs fr Θ r ps fun p Θ1 => ∃ q, p.Le q ∧ K q Θ1) : Cbs fr Θ r ps K := fun F H vs ok h1 Q k => w F H vs ok h1 Q k.conv
theorem Mts.conv {r : V → List V → Hp → VK → Prop} {p : Vp} {ps : List Vp} (w : Mts fr Θ r p ps fun p Θ1 => ∃ q, p.Le q ∧ K q Θ1) : Mts fr Θ r p ps K := fun F H v vs ok h1 h2 Q k => w F H v vs ok h1 h2 Q k.conv
theorem Sls.conv {r : V → Option Int → Option Int → Hp → VK → Prop} {p : Vp} {lo hi : Option Int} (w : Sls fr Θ r p lo hi fun p Θ1 => ∃ q, p.Le q ∧ K q Θ1) : Sls fr Θ r p lo hi K := fun F H v ok h1 Q k => w F H v ok h1 Q k.conv
theorem Ops.le {r : R2} {p q p' q' : Vp} (w : Ops fr Θ r p' q' K) (h1 : p.Le p') (h2 : q.Le q') : Ops fr Θ r p q K := fun F H v w' ok a b Q k => w F H v w' ok (h1 _ _ a) (h2 _ _ b) Q k
theorem Sls.le {r : V → Option Int → Option Int → Hp → VK → Prop} {p p' : Vp} {lo hi : Option Int} (w : Sls fr Θ r p' lo hi K) (h : p.Le p') : Sls fr Θ r p lo hi K := fun F H v ok a Q k => w F H v ok (h _ _ a) Q k
/-- a fact that the value tells -/
theorem Ops.tell {r : R2} {p q : Vp} {A : Prop} (h : ∀ F v, p.p F v → A) (w : A → Ops fr Θ r p q K) : Ops fr Θ r p q K := fun F H v w' ok a b Q k => w (h _ _ a) F H v w' ok a b Q k
theorem Cbs.tell {r : List V → Hp → VK → Prop} {p : Vp} {ps : List Vp} {A : Prop} (h : ∀ F v, p.p F v → A) (w : A → Cbs fr Θ r (p :: ps) K) : Cbs fr Θ r (p :: ps) K := fun F H vs ok a Q k => by
  cases a with
  | cons a b => exact w (h _ _ a) F H _ ok (.cons a b) Q k
theorem Sls.tell {r : V → Option Int → Option Int → Hp → VK → Prop} {p : Vp} {lo hi : Option Int} {A : Prop} (h : ∀ F v, p.p F v → A) (w : A → Sls fr Θ r p lo hi K) : Sls fr Θ r p lo hi K := fun F H v ok a Q k => w (h _ _ a) F H v ok a Q k
theorem te_S {z : Str} : ∀ F v, (iz yS z).p F v → z.length ≤ big := fun _ _ h => h.2
theorem te_L {α : Type} {r : Rep α} {xs : List α} : ∀ F v, (iz (yL r) xs).p F v → xs.length ≤ big := fun _ _ h => h.2
theorem we_cSy {z : Str} (h : Asc z) (hl : z.length ≤ big) (k : K (iz yS z) Θ) : We fr Γ Θ (tC (.str z)) K := we_c (p := iz yS z) (fun _ => ⟨⟨rfl, h⟩, hl⟩) k
theorem we_cNy (k : K (iz yN ()) Θ) : We fr Γ Θ (tC .non) K := we_c (fun _ => rfl) k
theorem oy_eqS {m n : Str} (k : K (iz zB (decide (m = n))) Θ) : Ops fr Θ rEq (iz yS m) (iz yS n) K := (ops_eqS k).le le_zS le_zS
theorem oy_neS {m n : Str} (k : K (iz zB (!decide (m = n))) Θ) : Ops fr Θ rNe (iz yS m) (iz yS n) K := (ops_neS k).le le_zS le_zS
theorem oy_addS {m n : Str} (hl : m.length + n.length ≤ big) (k : K (iz yS (m ++ n)) Θ) : Ops fr Θ (fun x y H Q => ∃ i j, x = .str i ∧ y = .str j ∧ i.length + j.length ≤ sizeLine ∧ Q (.str (i ++ j)) H) (iz yS m) (iz yS n) K :=
  (Ops.conv (ops_addS (big_line hl) ⟨_, le_yS (by show (m.cps ++ n.cps).size ≤ big; rw [Array.size_append]; exact hl), k⟩)).le le_zS le_zS
theorem oy_ixS {z : Str} {n : Int} {c : Nat} (e : atI z.cps.toList n = some c) (k : K (iz yS ⟨#[c]⟩) Θ) : Ops fr Θ rIxS (iz yS z) (iz zI n) K :=
  Ops.tell te_S fun hl => (Ops.conv (ops_ixS (big_line hl) e ⟨_, le_yS (by show 1 ≤ big; decide), k⟩)).le le_zS (Vp.Le.refl _)
def SeqY {α : Type} (fr : Fr) (Θ : List Cel) (p : Vp) (r : Rep α) (xs : List α) : Prop := SeqP fr Θ p r xs ∧ ∀ F H v, OkF fr Θ F H → p.p F v → xs.length ≤ big
theorem sy_L {α : Type} {r : Rep α} {xs : List α} : SeqY fr Θ (iz (yL r) xs) r xs := ⟨fun F H v ok h => seq_L F H v ok h.1, fun _ _ _ _ h => h.2⟩
theorem sy_T {α : Type} [TNar α] {r : Rep α} {xs : List α} : SeqY fr Θ (iz (yT r) xs) r xs := ⟨fun F H v ok h => seq_T F H v ok h.1, fun _ _ _ _ h => h.2⟩
theorem sy_C {α : Type} {r : Rep α} {xs : List α} {a : Addr} {j : Nat} (hj : Θ[j]? = some (cY a r xs)) : SeqY fr Θ (zAt a) r xs := ⟨fun F H v ok hv => by
  obtain ⟨_, ⟨o, h2, ⟨⟨vs, rfl, h4⟩, h5⟩⟩, _⟩ := ok.ce _ (List.mem_of_getElem? hj)
  exact ⟨a, vs, hv, .inl (.inl h2), h4⟩, fun F H v ok hv => by
  obtain ⟨_, ⟨o, h2, ⟨⟨vs, rfl, h4⟩, h5⟩⟩, _⟩ := ok.ce _ (List.mem_of_getElem? hj)
  exact h5⟩
theorem seq_yS {p : Vp} {xs : List Str} (h : SeqY fr Θ p yS xs) : SeqP fr Θ p zS xs := fun F H v ok hv => by
  obtain ⟨a, vs, h1, h2, h3⟩ := h.1 F H v ok hv
  exact ⟨a, vs, h1, h2, Paired.imp2 (fun _ _ q => q.1) h3⟩
theorem oy_inS {Kf : PySem.W.Frag} {p : Vp} {z : Str} {xs : List Str} (h : SeqY fr Θ p yS xs) (k : K (iz zB (decide (z ∈ xs))) Θ) : Ops fr Θ (rIn Kf false) (iz yS z) p K := (ops_inS (seq_yS h) k).le le_zS (Vp.Le.refl _)
theorem oy_ninS {Kf : PySem.W.Frag} {p : Vp} {z : Str} {xs : List Str} (h : SeqY fr Θ p yS xs) (k : K (iz zB (!decide (z ∈ xs))) Θ) : Ops fr Θ (rIn Kf true) (iz yS z) p K := (ops_ninS (seq_yS h) k).le le_zS (Vp.Le.refl _)
theorem oy_ixL {Kf : PySem.W.Frag} {α : Type} {r : Rep α} {xs : List α} {n : Int} {x : α} (e : atI xs n = some x) (k : K (iz r x) Θ) : Ops fr Θ (rIxL Kf) (iz (yL r) xs) (iz zI n) K := (ops_ixL e k).le le_zL (Vp.Le.refl _)
theorem oy_ixT {Kf : PySem.W.Frag} {α : Type} [TNar α] {r : Rep α} {xs : List α} {n : Int} {x : α} (e : atI xs n = some x) (k : K (iz r x) Θ) : Ops fr Θ (rIxT Kf) (iz (yT r) xs) (iz zI n) K := (ops_ixT e k).le le_zT (Vp.Le.refl _)
theorem oy_ixLp0 {Kf : PySem.W.Frag} {α β : Type} {r : Rep α} {s : Rep β} {x : α × β} (k : K (iz r x.1) Θ) : Ops fr Θ (rIxL Kf) (iz (zLp r s) x) (iz zI 0) K := fun F H v w ok ⟨a, u, z, h1, h2, h3, h4⟩ hw Q q => by
  have hw : w = .int 0 := hw
  subst h1 hw
  exact ⟨a, _, 0, u, rfl, rfl, SqL.of (ok.fh _ _ h2), rfl, q.go k ok h3⟩
theorem oy_ixLp1 {Kf : PySem.W.Frag} {α β : Type} {r : Rep α} {s : Rep β} {x : α × β} (k : K (iz s x.2) Θ) : Ops fr Θ (rIxL Kf) (iz (zLp r s) x) (iz zI 1) K := fun F H v w ok ⟨a, u, z, h1, h2, h3, h4⟩ hw Q q => by
  have hw : w = .int 1 := hw
  subst h1 hw
  exact ⟨a, _, 1, z, rfl, rfl, SqL.of (ok.fh _ _ h2), rfl, q.go k ok h4⟩
theorem oy_ixL30 {Kf : PySem.W.Frag} {α β γ : Type} {r : Rep α} {s : Rep β} {t : Rep γ} {x : α × β × γ} (k : K (iz r x.1) Θ) : Ops fr Θ (rIxL Kf) (iz (zL3 r s t) x) (iz zI 0) K := fun F H v w ok ⟨a, u, y, z, h1, h2, h3, h4, h5⟩ hw Q q => by
  have hw : w = .int 0 := hw
  subst h1 hw
  exact ⟨a, _, 0, u, rfl, rfl, SqL.of (ok.fh _ _ h2), rfl, q.go k ok h3⟩
theorem oy_ixL31 {Kf : PySem.W.Frag} {α β γ : Type} {r : Rep α} {s : Rep β} {t : Rep γ} {x : α × β × γ} (k : K (iz s x.2.1) Θ) : Ops fr Θ (rIxL Kf) (iz (zL3 r s t) x) (iz zI 1) K := fun F H v w ok ⟨a, u, y, z, h1, h2, h3, h4, h5⟩ hw Q q => by
  have hw : w = .int 1 := hw
  subst h1 hw
  exact ⟨a, _, 1, y, rfl, rfl, SqL.of (ok.fh _ _ h2), rfl, q.go k ok h4⟩
theorem oy_ixL32 {Kf : PySem.W.Frag} {α β γ : Type} {r : Rep α} {s : Rep β} {t : Rep γ} {x : α × β × γ} (k : K (iz t x.2.2) Θ) : Ops fr Θ (rIxL Kf) (iz (zL3 r s t) x) (iz zI 2) K := fun F H v w ok ⟨a, u, y, z, h1, h2, h3, h4, h5⟩ hw Q q => by
  have hw : w = .int 2 := hw
  subst h1 hw
  exact ⟨a, _, 2, z, rfl, rfl, SqL.of (ok.fh _ _ h2), rfl, q.go k ok h5⟩
theorem cy_len {Kf : PySem.W.Frag} {α : Type} {r : Rep α} {xs : List α} {p : Vp} (h : SeqY fr Θ p r xs) (k : xs.length ≤ big → K (iz zI xs.length) Θ) : Cbs fr Θ (rLenQ Kf) [p] K := fun F H vs ok hps Q q => by
  have hl : xs.length ≤ big := by
    cases hps with
    | cons a b => exact h.2 F H _ ok a
  exact cb_len h.1 (k hl) F H vs ok hps Q q
theorem cy_lenS {z : Str} (k : z.length ≤ big → K (iz zI z.length) Θ) : Cbs fr Θ (fun xs H Q => ∃ z, xs = [.str z] ∧ z.length ≤ sizeLine ∧ Q (.int z.length) H) [iz yS z] K := Cbs.tell te_S fun hl F H vs ok hps Q q => cb_lenS (big_line hl) (k hl) F H vs ok (by
  cases hps with
  | cons a b => cases b with
    | nil => exact .cons a.1 .nil) Q q
theorem cy_list {Kf : PySem.W.Frag} {α : Type} {r : Rep α} {xs : List α} {p : Vp} (h : SeqY fr Θ p r xs) (k : K (iz (yL r) xs) Θ) : Cbs fr Θ (rListQ Kf) [p] K := fun F H vs ok hps Q q => by
  have hl : xs.length ≤ big := by
    cases hps with
    | cons a b => exact h.2 F H _ ok a
  exact (Cbs.conv (cb_list h.1 ⟨_, le_yL hl, k⟩)) F H vs ok hps Q q
theorem cy_listO {Kf : PySem.W.Frag} {α : Type} {r : Rep α} {xs : List α} {p : Vp} (h : SeqY fr Θ p r xs) (k : ∀ a, K (zAt a) (cY a r xs :: Θ)) : Cbs fr Θ (rListQ Kf) [p] K := fun F H vs ok hps Q q => by
  cases hps with
  | cons a b => cases b with
    | nil =>
      have hl := h.2 F H _ ok a
      obtain ⟨p, us, h1, h2, h3⟩ := h.1 F H _ ok a
      refine ⟨p, us, by rw [h1], sq_or h2, fun l nl => q _ _ (k l) _ F _ (Same.refl F) (ok.mkOwn (c := cY l r xs) nl rfl ⟨⟨_, rfl, h3⟩, hl⟩) rfl⟩
theorem cy_all {Kf : PySem.W.Frag} {xs : List Bool} (k : K (iz zB (xs.all id)) Θ) : Cbs fr Θ (rAll Kf) [iz (yL zB) xs] K := fun F H vs ok hps Q q => cb_all k F H vs ok (by
  cases hps with
  | cons a b => cases b with
    | nil => exact .cons a.1 .nil) Q q
theorem cy_intB {b : Bool} (k : K (iz zI (if b then 1 else 0)) Θ) : Cbs fr Θ (fun xs H Q => (∃ i, xs = [.int i] ∧ Q (.int i) H) ∨ ∃ k, xs = [.bl k] ∧ Q (.int (if k then 1 else 0)) H) [iz zB b] K := fun F H vs ok hps Q q => by
  cases hps with
  | cons h1 hp => cases hp with
    | nil =>
      have h1 : _ = V.bl b := h1
      subst h1
      exact .inr ⟨b, rfl, q.go k ok rfl⟩
theorem cutX_len {α : Type} {xs : List α} {lo hi : Option Int} {n : Nat} (h : xs.length ≤ n) : (cutX xs lo hi).length ≤ n := by
  unfold cutX
  have h1 := List.length_take_le (HT.sIx xs.length xs.length hi - HT.sIx xs.length 0 lo) (xs.drop (HT.sIx xs.length 0 lo))
  rw [List.length_take, List.length_drop]
  omega
theorem sy_slL {Kf : PySem.W.Frag} {α : Type} {r : Rep α} {xs : List α} {lo hi : Option Int} (k : K (iz (yL r) (cutX xs lo hi)) Θ) : Sls fr Θ (rSlL Kf) (iz (yL r) xs) lo hi K := Sls.tell te_L fun hl => (Sls.conv (sls_L ⟨_, le_yL (cutX_len hl), k⟩)).le le_zL
theorem oy_cat {α : Type} {r : Rep α} {xs ys : List α} (hl : xs.length + ys.length ≤ big) (k : K (iz (yL r) (xs ++ ys)) Θ) : Ops fr Θ rCat (iz (yL r) xs) (iz (yL r) ys) K := (Ops.conv (ops_cat (big_line hl) ⟨_, le_yL (by rw [List.length_append]; exact hl), k⟩)).le le_zL le_zL
theorem we_lstY {α : Type} {r : Rep α} {t : TA} (w : Wa fr Γ Θ t fun ps Θ1 => ∃ xs : List α, ps = xs.map (iz r) ∧ xs.length ≤ 1000 ∧ K (iz (yL r) xs) Θ1) : We fr Γ Θ (tLst t) K := We.conv (we_lst (r := r) fun σ F H ok env Q q => w σ F H ok env Q fun ps Θ1 ⟨xs, e, hl, k⟩ => q ps Θ1 ⟨xs, e, by rw [e, List.length_map]; exact hl, _, le_yL (Nat.le_trans hl (by decide)), k⟩)
theorem we_ownY {α : Type} (r : Rep α) {t : TA} (w : Wa fr Γ Θ t fun ps Θ1 => ∃ xs : List α, ps = xs.map (iz r) ∧ xs.length ≤ 1000 ∧ ∀ a, K (zAt a) (cY a r xs :: Θ1)) : We fr Γ Θ (tLst t) K := fun σ F H ok env Q q =>
  w σ F H ok env _ fun ps Θ1 ⟨xs, e, hl, k⟩ vs F1 H1 s1 ok1 hps => by
    subst e
    have h4 := pvs_map hps
    exact ⟨Nat.le_of_lt (small1000 (by rw [Paired.len h4]; exact hl)), fun p np => q _ _ (k p) _ F1 _ s1 (ok1.mkOwn (c := cY p r xs) np rfl ⟨⟨_, rfl, h4⟩, Nat.le_trans hl (by decide)⟩) rfl⟩
theorem tr4 {α β γ δ : Type} {r : Rep α} {s : Rep β} {t : Rep γ} {u : Rep δ} {x : α} {y : β} {z : γ} {w : δ} : TupR [iz r x, iz s y, iz t z, iz u w] (iz (z4 r s t u) (x, y, z, w)) := fun F a vs h hp => by
  cases hp with
  | cons h1 hp => cases hp with
    | cons h2 hp => cases hp with
      | cons h3 hp => cases hp with
        | cons h4 hp => cases hp with
          | nil => exact ⟨a, _, _, _, _, rfl, h, h1, h2, h3, h4⟩
theorem we_lst3 {α β γ : Type} {r : Rep α} {s : Rep β} {o : Rep γ} {t : TA} (w : Wa fr Γ Θ t fun ps Θ1 => ∃ x y z, ps = [iz r x, iz s y, iz o z] ∧ K (iz (zL3 r s o) (x, y, z)) Θ1) : We fr Γ Θ (tLst t) K := fun σ F H ok env Q q =>
  w σ F H ok env _ fun ps Θ1 ⟨x, y, z, e, k⟩ vs F1 H1 s1 ok1 hps => by
    subst e
    cases hps with
    | cons h1 hp => cases hp with
      | cons h2 hp => cases hp with
        | cons h3 hp => cases hp with
          | nil =>
            refine ⟨by show 3 ≤ sizeLine; unfold sizeLine; decide, fun p np => ?_⟩
            exact (q.mono s1).new k ok1 np ⟨p, _, _, _, rfl, upd_same, r.mono (ok1.sameF np) h1, s.mono (ok1.sameF np) h2, o.mono (ok1.sameF np) h3⟩
end
end L2
set_option Elab.async false
set_option linter.all false
set_option maxRecDepth 100000
set_option maxHeartbeats 4000000
namespace L2
open PySem PySem.Spec PyProof.Rows PySem.HErr
theorem mapD_comp {α β : Type} {f : α → (β → Prop) → Prop} {k : List β → Prop} : ∀ (xs : List α) (acc : List β), mapD xs acc f k = compD xs acc (fun x k => f x fun y => k (some y)) k
  | [], _ => rfl
  | x :: xs, acc => by
    show (f x fun y => mapD xs (acc ++ [y]) f k) = f x fun y => compD xs (acc ++ [y]) _ k
    congr 1
    funext y
    exact mapD_comp xs _
theorem compD_pure {α β : Type} {pr : α → Bool} {f : α → β} {k : List β → Prop} : ∀ (xs : List α) (acc : List β), compD xs acc (fun x k => ifD (pr x) (k (some (f x))) (k none)) k = k (acc ++ (xs.filter pr).map f)
  | [], acc => by simp [compD]
  | x :: xs, acc => by
    show ifD (pr x) (compD xs (acc ++ [f x]) _ k) (compD xs (acc ++ []) _ k) = _
    rw [compD_pure xs, compD_pure xs, List.filter_cons]
    unfold ifD
    cases pr x <;> simp
theorem mapD_pure {α β : Type} {f : α → β} {k : List β → Prop} : ∀ (xs : List α) (acc : List β), mapD xs acc (fun x k => k (f x)) k = k (acc ++ xs.map f)
  | [], acc => by simp [mapD]
  | x :: xs, acc => by
    show mapD xs (acc ++ [f x]) _ k = _
    rw [mapD_pure xs]
    simp
section
variable {fr : Fr} {Γ Γ' : Gam} {Θ Θ' : List Cel} {F F' H H' : Hp} {K : Vp → List Cel → Prop} {Q : VK}
theorem wi_yL {Kf : PySem.W.Frag} {tl : TE} {K : List Vp → List Cel → Prop} (w : We fr Γ Θ tl fun p Θ1 => ∃ (α : Type) (r : Rep α) (xs : List α), p = iz (yL r) xs ∧ (xs.length ≤ big → K (xs.map (iz r)) Θ1)) : Wi fr Γ Θ (iList Kf tl) K := fun σ F H ok env R q =>
  wi_list (fr := fr) (Γ := Γ) (Θ := Θ) (Kf := Kf) (tl := tl) (K := K) (fun σ F H ok env Q q => w σ F H ok env Q fun p Θ1 ⟨α, r, xs, e, k⟩ v F1 H1 s1 ok1 hp => by
    subst e
    exact q (iz (zL r) xs) Θ1 ⟨α, r, xs, rfl, k hp.2⟩ v F1 H1 s1 ok1 hp.1) σ F H ok env R q
theorem wi_yT {Kf : PySem.W.Frag} {tl : TE} {K : List Vp → List Cel → Prop} (w : We fr Γ Θ tl fun p Θ1 => ∃ (α : Type) (_ : TNar α) (r : Rep α) (xs : List α), p = iz (yT r) xs ∧ (xs.length ≤ big → K (xs.map (iz r)) Θ1)) : Wi fr Γ Θ (iTup Kf tl) K := fun σ F H ok env R q =>
  wi_tup (fr := fr) (Γ := Γ) (Θ := Θ) (Kf := Kf) (tl := tl) (K := K) (fun σ F H ok env Q q => w σ F H ok env Q fun p Θ1 ⟨α, _, r, xs, e, k⟩ v F1 H1 s1 ok1 hp => by
    subst e
    exact q (iz (zT r) xs) Θ1 ⟨α, _, r, xs, rfl, k hp.2⟩ v F1 H1 s1 ok1 hp.1) σ F H ok env R q
theorem kn_forW {wi : TI} {g : TG} {tb : TS} {D : Ends} {α S : Type} {r : Rep α} (G : S → Gam) (T : S → List Cel) (s0 : S)
    (w : Wi fr Γ Θ wi fun its Θ1 => ∃ (xs : List α) (body : α → S → (S → Prop) → (S → Prop) → Prop) (after : S → Prop) (vs : List Nat) (Γ2 : α → S → Gam), its = xs.map (iz r) ∧ Θ1 = T s0 ∧ GLe Γ (G s0) ∧ (∀ x s, TgR g vs (iz r x) (G s) (Γ2 x s)) ∧ forD xs s0 body after ∧
      (∀ fr', FrLe fr fr' → ∀ x s nx M, (∀ s' Γ' Θ', nx s' → GLe Γ' (G s') → Θ' = T s' → Kn fr' Γ' Θ' M) → (∀ s' Γ' Θ', after s' → GLe Γ' (G s') → Θ' = T s' → Kn fr' Γ' Θ' D.nx) → body x s nx after → Kn fr' (Γ2 x s) (T s) (tb { D with nx := M, ct := M, bk := D.nx })) ∧
      (∀ s, after s → Kn fr (G s) (T s) D.nx)) : Kn fr Γ Θ (tFor wi g tb D) :=
  kn_for fun σ F H ok env R q => w σ F H ok env R fun its Θ1 ⟨xs, body, after, vs, Γ2, e1, e2, l0, tg, hf, hs, hd⟩ => q its Θ1 (by
    subst e1 e2
    refine ⟨fun i Γ1 Θ2 => ∃ s, Γ1 = G s ∧ Θ2 = T s ∧ forD (xs.drop i) s body after, ⟨G s0, l0, s0, rfl, rfl, hf⟩, fun fr' le i p Γ1 Θ2 hi ⟨s, eg, et, h⟩ => ?_, fun Γ1 Θ2 ⟨s, eg, et, h⟩ => ?_⟩
    · subst eg et
      obtain ⟨x, hx, rfl⟩ := get_izs hi
      rw [drop_at hx] at h
      refine ⟨vs, _, tg x s, hs fr' le x s _ _ (fun s' Γ' Θ' hn gl e => ?_) (fun s' Γ' Θ' hn gl e => ?_) h⟩
      · subst e
        exact kn_mid ⟨G s', gl, s', rfl, rfl, hn⟩
      · subst e
        exact ((hd s' hn).fine le).le gl
    · subst eg et
      rw [List.length_map, List.drop_length] at h
      exact hd s h)
theorem kn_cutW {t u : TS} {D : Ends} {S : Type} (G : S → Gam) (T : S → List Cel) {f : (S → Prop) → Prop} {k : S → Prop} (h : joinD f k)
    (hb : ∀ M, (∀ s' Γ' Θ', k s' → GLe Γ' (G s') → Θ' = T s' → Kn fr Γ' Θ' M) → f k → Kn fr Γ Θ (t { D with nx := M })) (hr : ∀ s, k s → Kn fr (G s) (T s) (u D)) : Kn fr Γ Θ (C8.tCut t u D) :=
  kn_cut (fun Γ Θ => ∃ s, Γ = G s ∧ Θ = T s ∧ k s) (hb _ (fun s' Γ' Θ' hn gl e => by
    subst e
    exact kn_mid ⟨G s', gl, s', rfl, rfl, hn⟩) h) fun Γ Θ ⟨s, e1, e2, hk⟩ => by
    subst e1 e2
    exact hr s hk
theorem wt_andC {K : Bool → List Cel → Prop} {t u : TT} (w : Wt fr Γ Θ t fun b Θ1 => (b = true → Wt fr Γ Θ1 u K) ∧ (b = false → K false Θ1)) : Wt fr Γ Θ (tAnd t u) K := fun σ F H ok env Q q =>
  w σ F H ok env _ fun b Θ1 ⟨k1, k2⟩ F1 H1 s1 ok1 => by
    cases b with
    | true => rw [if_pos rfl]; exact k1 rfl σ F1 H1 ok1 (env.mono s1) Q fun c Θ2 kk F2 H2 s2 => q c Θ2 kk F2 H2 (s1.trans s2)
    | false => rw [if_neg Bool.false_ne_true]; exact q false Θ1 (k2 rfl) F1 H1 s1 ok1
theorem wt_orC {K : Bool → List Cel → Prop} {t u : TT} (w : Wt fr Γ Θ t fun b Θ1 => (b = false → Wt fr Γ Θ1 u K) ∧ (b = true → K true Θ1)) : Wt fr Γ Θ (tOr t u) K := fun σ F H ok env Q q =>
  w σ F H ok env _ fun b Θ1 ⟨k2, k1⟩ F1 H1 s1 ok1 => by
    cases b with
    | true => rw [if_pos rfl]; exact q true Θ1 (k1 rfl) F1 H1 s1 ok1
    | false => rw [if_neg Bool.false_ne_true]; exact k2 rfl σ F1 H1 ok1 (env.mono s1) Q fun c Θ2 kk F2 H2 s2 => q c Θ2 kk F2 H2 (s1.trans s2)
theorem we_andC {t u : TE} (w : We fr Γ Θ t fun p Θ1 => ∃ b, p = iz zB b ∧ (b = true → We fr Γ Θ1 u K) ∧ (b = false → K (iz zB false) Θ1)) : We fr Γ Θ (tAndV t u) K := fun σ F H ok env Q q =>
  w σ F H ok env _ fun p Θ1 ⟨b, e, k1, k2⟩ v F1 H1 s1 ok1 hp => by
    subst e
    refine ⟨b, hp, ?_⟩
    cases b with
    | true => rw [if_pos rfl]; exact k1 rfl σ F1 H1 ok1 (env.mono s1) Q (q.mono s1)
    | false => rw [if_neg Bool.false_ne_true]; exact q _ Θ1 (k2 rfl) _ F1 H1 s1 ok1 rfl
theorem andK {b : Bool} {f : (Bool → Prop) → Prop} {k : Bool → Prop} {u : TT} {K : Bool → List Cel → Prop} (h : andD b f k) (x : f k → Wt fr Γ Θ u fun c Θ' => Θ' = Θ ∧ k c) (kk : ∀ c, k c → K c Θ) : (b = true → Wt fr Γ Θ u K) ∧ (b = false → K false Θ) :=
  ⟨fun e σ F H ok env Q q => x (h.1 e) σ F H ok env Q fun c Θ' ⟨e1, hc⟩ => q c Θ' (by rw [e1]; exact kk c hc), fun e => kk false (h.2 e)⟩
theorem orK {b : Bool} {f : (Bool → Prop) → Prop} {k : Bool → Prop} {u : TT} {K : Bool → List Cel → Prop} (h : orD b f k) (x : f k → Wt fr Γ Θ u fun c Θ' => Θ' = Θ ∧ k c) (kk : ∀ c, k c → K c Θ) : (b = false → Wt fr Γ Θ u K) ∧ (b = true → K true Θ) :=
  ⟨fun e σ F H ok env Q q => x (h.2 e) σ F H ok env Q fun c Θ' ⟨e1, hc⟩ => q c Θ' (by rw [e1]; exact kk c hc), fun e => kk true (h.1 e)⟩
theorem andKv {b : Bool} {f : (Bool → Prop) → Prop} {k : Bool → Prop} {u : TE} (h : andD b f k) (x : f k → We fr Γ Θ u fun p Θ' => Θ' = Θ ∧ ∃ c, p = iz zB c ∧ k c) (kk : ∀ c, k c → K (iz zB c) Θ) : ∃ b', iz zB b = iz zB b' ∧ (b' = true → We fr Γ Θ u K) ∧ (b' = false → K (iz zB false) Θ) :=
  ⟨b, rfl, fun e σ F H ok env Q q => x (h.1 e) σ F H ok env Q fun p Θ' ⟨e1, c, e2, hc⟩ => q p Θ' (by rw [e1, e2]; exact kk c hc), fun e => kk false (h.2 e)⟩
/-- a if c else b, of one kind; f is a way of both -/
theorem we_ifD {α : Type} {r : Rep α} {c : TT} {ta tb : TE} {k : α → Prop} (w : Wt fr Γ Θ c fun b Θ1 => Θ1 = Θ ∧ (b = true → We fr Γ Θ ta fun p Θ2 => Θ2 = Θ ∧ ∃ x, p = iz r x ∧ k x) ∧ (b = false → We fr Γ Θ tb fun p Θ2 => Θ2 = Θ ∧ ∃ x, p = iz r x ∧ k x)) (kk : ∀ x, k x → K (iz r x) Θ) : We fr Γ Θ (tIf c ta tb) K :=
  we_if fun σ F H ok env Q q => w σ F H ok env Q fun b Θ1 ⟨e, k1, k2⟩ => q b Θ1 (by
    subst e
    exact ⟨fun h => (k1 h).imp fun p Θ2 ⟨e1, x, e2, hx⟩ => by rw [e1, e2]; exact kk x hx, fun h => (k2 h).imp fun p Θ2 ⟨e1, x, e2, hx⟩ => by rw [e1, e2]; exact kk x hx⟩)
/-- a < b < c of ints -/
theorem we_chainI {h1 h2 : Int → Int → Bool} {ta tb tc : TE} (w : We fr Γ Θ ta fun p Θ1 => We fr Γ Θ1 tb fun q Θ2 => ∃ a b c, p = iz zI a ∧ q = iz zI b ∧ Ev fr Γ Θ2 tc (iz zI c) ∧ K (iz zB (h1 a b && h2 b c)) Θ2) : We fr Γ Θ (tChain (rI0 fun i j => .bl (h1 i j)) (rI0 fun i j => .bl (h2 i j)) ta tb tc) K := fun σ F H ok env Q q =>
  w σ F H ok env _ fun p Θ1 w1 v1 F1 H1 s1 ok1 hp1 => w1 σ F1 H1 ok1 (env.mono s1) _ fun p2 Θ2 ⟨a, b, c, e1, e2, w2, k⟩ v2 F2 H2 s2 ok2 hp2 => by
    subst e1 e2
    refine ⟨a, b, hp1, hp2, h1 a b, rfl, ?_⟩
    cases hb : h1 a b with
    | true =>
      rw [if_pos rfl]
      refine w2 σ F2 H2 ok2 ((env.mono s1).mono s2) _ fun o Θ3 ⟨e3, e4⟩ v3 F3 H3 s3 ok3 hp3 => ?_
      subst e3 e4
      rw [hb, Bool.true_and] at k
      exact ⟨b, c, hp2, hp3, q _ Θ3 k _ F3 H3 ((s1.trans s2).trans s3) ok3 rfl⟩
    | false =>
      rw [if_neg Bool.false_ne_true]
      rw [hb, Bool.false_and] at k
      exact q _ Θ2 k _ F2 H2 (s1.trans s2) ok2 rfl
theorem we_lcW {α β : Type} {r : Rep α} {s : Rep β} {wi : TI} {g : TG} {tt : TT} {te : TE} {vs : List Nat}
    (w : Wi fr Γ Θ wi fun its Θ1 => ∃ (xs : List α) (f : α → (Option β → Prop) → Prop) (k : List β → Prop) (Γ2 : α → Gam), its = xs.map (iz r) ∧ Θ1 = Θ ∧ xs.length ≤ big ∧ (∀ x, TgR g vs (iz r x) (wipeG Γ vs) (Γ2 x)) ∧ compD xs [] f k ∧
      (∀ x c kx, f x kx → Wt fr (Γ2 x) (c :: Θ) tt fun b Θ1 => (b = true → We fr (Γ2 x) Θ1 te fun q Θ' => Θ' = c :: Θ ∧ ∃ y, q = iz s y ∧ kx (some y)) ∧ (b = false → Θ1 = c :: Θ ∧ kx none)) ∧
      (∀ ys, k ys → ys.length ≤ big → K (iz (yL s) ys) Θ)) : We fr Γ Θ (tLc wi g tt te vs) K := fun σ F H ok env Q q => by
  refine w σ F H ok env _ fun its Θ1 ⟨xs, f, k, Γ2, e1, e2, hl, tg, hc, hs, hk⟩ J F1 H1 s1 ok1 jok => ?_
  subst e1 e2
  intro D nD
  refine ⟨fun i m H' => m = xs.length - i ∧ i ≤ xs.length ∧ ∃ F2 ys, Same F1 F2 ∧ OkF fr (cL D s ys :: Θ1) F2 H' ∧ ys.length ≤ i ∧ compD (xs.drop i) ys f k, ⟨xs.length, by simp, Nat.zero_le _, F1, [], Same.refl _, ok1.mkOwn (c := cL D s []) nD rfl ⟨[], rfl, .nil⟩, Nat.le_refl _, hc⟩, ?_⟩
  rintro i m H' ⟨rfl, hi, F2, ys, s2, ok2, yl, py⟩
  obtain ⟨j1, j2⟩ := jok F2 H' s2 ok2.fh
  by_cases hlt : i < xs.length
  · have hx : xs[i]? = some xs[i] := List.getElem?_eq_getElem hlt
    generalize xs[i] = x at hx
    obtain ⟨jg, jy⟩ := j1 i (iz r x) (by rw [List.getElem?_map, hx]; rfl)
    refine .inr ⟨jg, fun H3 => ∃ F3 ys, Same F1 F3 ∧ OkF fr (cL D s ys :: Θ1) F3 H3 ∧ ys.length ≤ i + 1 ∧ compD (xs.drop (i + 1)) ys f k, fun H3 p => ⟨xs.length - (i + 1), by omega, rfl, hlt, p⟩, fun v H3 y => ?_⟩
    obtain ⟨F3, e1, e2, e3, e4, e5⟩ := jy v H3 y
    have ok3 := ok2.grow e2 e1 e3 e4
    have s3 := s2.trans e1
    have hd : xs.drop i = x :: xs.drop (i + 1) := by
      obtain ⟨hl, e⟩ := List.getElem?_eq_some_iff.mp hx
      rw [List.drop_eq_getElem_cons hl, e]
    rw [hd] at py
    refine tg x (L2.wipe σ vs) F3 H3 v ok3.fh ((env.mono (s1.trans s3)).wipe vs) e5 _ fun σ2 env2 hw => ⟨?_, ?_⟩
    · rw [hw, wipe_idem]
    · refine hs x _ _ py σ2 F3 H3 ok3 env2 _ fun b Θ2 ⟨k1, k2⟩ F4 H4 s4 ok4 => ?_
      cases b with
      | true =>
        rw [if_pos rfl]
        refine k1 rfl σ2 F4 H4 ok4 (env2.mono s4) _ fun p Θ3 ⟨e8, y, e9, hy⟩ u F5 H5 s5 ok5 hp => ?_
        subst e8 e9
        obtain ⟨_, ⟨o, h2, acc, rfl, h4⟩, _⟩ := ok5.ce _ (List.mem_cons_self ..)
        have ok6 := ok5.mut (i := 0) (c := cL D s ys) (c' := cL D s (ys ++ [y])) (o := .lst (acc ++ [u])) rfl rfl rfl ⟨_, rfl, PySem.Paired.snoc h4 hp⟩
        refine ⟨acc, h2, ?_, F5, ys ++ [y], (s3.trans s4).trans s5, ok6, by rw [List.length_append]; show _ + 1 ≤ _; omega, hy⟩
        rw [Paired.len h4]
        exact big_lt (by omega)
      | false =>
        rw [if_neg Bool.false_ne_true]
        obtain ⟨e8, hn⟩ := k2 rfl
        subst e8
        have hn : compD (xs.drop (i + 1)) (ys ++ []) f k := hn
        rw [List.append_nil] at hn
        exact ⟨F4, ys, s3.trans s4, ok4, by omega, hn⟩
  · have e : i = xs.length := by omega
    subst e
    rw [List.drop_length] at py
    obtain ⟨_, ⟨o, h2, acc, rfl, h4⟩, _⟩ := ok2.ce _ (List.mem_cons_self ..)
    have ok3 := ok2.frz (i := 0) (c := cL D s ys) rfl rfl h2
    have sD : Same F2 (upd F2 D (.lst acc)) := same_upd (ok2.ce _ (List.mem_cons_self ..)).1
    have yb : ys.length ≤ big := by omega
    refine .inl ⟨by rw [List.length_map] at j2; exact j2, q _ _ (hk ys py yb) _ _ H' ((s1.trans s2).trans sD) ok3 ⟨⟨D, acc, rfl, upd_same, Paired.imp2 (fun _ _ h => s.mono sD h) h4⟩, yb⟩⟩
/-- with a test, all plain -/
theorem we_lcP {α β : Type} {r : Rep α} {s : Rep β} {wi : TI} {g : TG} {tt : TT} {te : TE} {vs : List Nat}
    (w : Wi fr Γ Θ wi fun its Θ1 => ∃ (xs : List α) (pr : α → Bool) (f : α → β) (Γ2 : α → Gam), its = xs.map (iz r) ∧ Θ1 = Θ ∧ xs.length ≤ big ∧ (∀ x, TgR g vs (iz r x) (wipeG Γ vs) (Γ2 x)) ∧
      (∀ x c, Et fr (Γ2 x) (c :: Θ) tt (pr x)) ∧ (∀ x c, Ev fr (Γ2 x) (c :: Θ) te (iz s (f x))) ∧ K (iz (yL s) ((xs.filter pr).map f)) Θ) : We fr Γ Θ (tLc wi g tt te vs) K :=
  we_lcW (r := r) (s := s) fun σ F H ok env R q => w σ F H ok env R fun its Θ1 ⟨xs, pr, f, Γ2, e1, e2, hl, tg, ht, he, k⟩ => q its Θ1 ⟨xs, fun x k => ifD (pr x) (k (some (f x))) (k none), (· = (xs.filter pr).map f), Γ2, e1, e2, hl, tg, by rw [compD_pure]; rfl,
    fun x c kx h σ F H ok env Q q => ht x c σ F H ok env Q fun b Θ1 ⟨e1, e2⟩ => q b Θ1 (by
      subst e1 e2
      exact ⟨fun hb => (he x c).imp fun p Θ' ⟨e3, e4⟩ => ⟨e4, _, e3, h.1 hb⟩, fun hb => ⟨rfl, h.2 hb⟩⟩), fun ys e _ => by rw [e]; exact k⟩
/-- without a test -/
theorem we_lcM {α β : Type} {r : Rep α} {s : Rep β} {wi : TI} {g : TG} {te : TE} {vs : List Nat}
    (w : Wi fr Γ Θ wi fun its Θ1 => ∃ (xs : List α) (f : α → (β → Prop) → Prop) (k : List β → Prop) (Γ2 : α → Gam), its = xs.map (iz r) ∧ Θ1 = Θ ∧ xs.length ≤ big ∧ (∀ x, TgR g vs (iz r x) (wipeG Γ vs) (Γ2 x)) ∧ mapD xs [] f k ∧
      (∀ x c kx, f x kx → We fr (Γ2 x) (c :: Θ) te fun q Θ' => Θ' = c :: Θ ∧ ∃ y, q = iz s y ∧ kx y) ∧
      (∀ ys, k ys → ys.length ≤ big → K (iz (yL s) ys) Θ)) : We fr Γ Θ (tLc wi g tYes te vs) K :=
  we_lcW (r := r) (s := s) fun σ F H ok env R q => w σ F H ok env R fun its Θ1 ⟨xs, f, k, Γ2, e1, e2, hl, tg, hm, he, hk⟩ => q its Θ1 ⟨xs, fun x k => f x fun y => k (some y), k, Γ2, e1, e2, hl, tg, by rw [← mapD_comp]; exact hm,
    fun x c kx h => wt_yes ⟨fun _ => (he x c _ h), (fun h => nomatch h)⟩, hk⟩
theorem we_lcM0 {α β : Type} {r : Rep α} {s : Rep β} {wi : TI} {g : TG} {te : TE} {vs : List Nat}
    (w : Wi fr Γ Θ wi fun its Θ1 => ∃ (xs : List α) (f : α → β) (Γ2 : α → Gam), its = xs.map (iz r) ∧ Θ1 = Θ ∧ xs.length ≤ big ∧ (∀ x, TgR g vs (iz r x) (wipeG Γ vs) (Γ2 x)) ∧
      (∀ x c, Ev fr (Γ2 x) (c :: Θ) te (iz s (f x))) ∧ K (iz (yL s) (xs.map f)) Θ) : We fr Γ Θ (tLc wi g tYes te vs) K :=
  we_lcM (r := r) (s := s) fun σ F H ok env R q => w σ F H ok env R fun its Θ1 ⟨xs, f, Γ2, e1, e2, hl, tg, he, k⟩ => q its Θ1 ⟨xs, fun x k => k (f x), (· = xs.map f), Γ2, e1, e2, hl, tg, by rw [mapD_pure]; rfl,
    fun x c kx h => (he x c).imp fun p Θ' ⟨e3, e4⟩ => ⟨e4, _, e3, h⟩, fun ys e _ => by rw [e]; exact k⟩
theorem kn_appY {Kf : PySem.W.Frag} {α : Type} {r : Rep α} {xs : List α} {a : Addr} {i j : Nat} {te : TE} {D : Ends} (hi : Γ[i]? = some (some (zAt a))) (hj : Θ[j]? = some (cY a r xs))
    (w : We fr Γ Θ te fun p Θ1 => ∃ x, p = iz r x ∧ Θ1[j]? = some (cY a r xs) ∧ xs.length < big ∧ Kn fr Γ (Θ1.set j (cY a r (xs ++ [x]))) D.nx) : Kn fr Γ Θ (tDrop (tBM Kf "list" rAppend (tVar i) (tCons te tNil)) D) := by
  refine kn_drop (we_bm (we_var hi ⟨fun F H v ok hv => ?_, wa_cons (w.imp fun p Θ1 ⟨x, e, hj1, hl, k⟩ => wa_nil ?_)⟩))
  · obtain ⟨_, ⟨o, h2, ⟨⟨vs, rfl, h4⟩, h5⟩⟩, _⟩ := ok.ce _ (List.mem_of_getElem? hj)
    have hv : v = .ref a := hv
    subst hv
    exact .inl ⟨rfl, vs, SqL.of h2⟩
  · subst e
    intro F H v vs ok hv hps Q q
    cases hps with
    | cons h1 hp => cases hp with
      | nil =>
        obtain ⟨_, ⟨o, h2, ⟨⟨us, rfl, h4⟩, h5⟩⟩, _⟩ := ok.ce _ (List.mem_of_getElem? hj1)
        have ok2 := ok.mut (c' := cY a r (xs ++ [x])) (o := .lst (us ++ [_])) hj1 rfl rfl ⟨⟨_, rfl, PySem.Paired.snoc h4 h1⟩, by rw [List.length_append]; exact hl⟩
        exact ⟨a, us, _, hv, rfl, h2, by rw [Paired.len h4]; exact big_lt (Nat.le_of_lt hl), q zNon _ k _ F _ (Same.refl F) ok2 rfl⟩
theorem set_same {σ : L2.St} {i : Nat} {v : V} (h : σ[i]? = some (some v)) : σ.set i (some v) = σ := by
  apply List.ext_getElem?
  intro m
  rw [List.getElem?_set]
  split
  · rename_i q
    subst q
    rw [if_pos (List.getElem?_eq_some_iff.mp h).1, h]
  · rfl
theorem kn_frzY {α : Type} {r : Rep α} {xs : List α} {a : Addr} {i j : Nat} {P : L2.St → Hp → Prop} (hi : Γ[i]? = some (some (zAt a))) (hj : Θ[j]? = some (cY a r xs)) (k : Kn fr (Γ.set i (some (iz (yL r) xs))) (Θ.eraseIdx j) P) : Kn fr Γ Θ P := fun σ F H ok env => by
  obtain ⟨v, h1, h2⟩ := env.get hi
  have h2 : v = .ref a := h2
  subst h2
  obtain ⟨h0, ⟨o, h3, ⟨⟨vs, rfl, h5⟩, h6⟩⟩, _⟩ := ok.ce _ (List.mem_of_getElem? hj)
  have h3 : H a = some (.lst vs) := h3
  have ok2 := ok.frz hj rfl h3
  have s2 : Same F (upd F a (.lst vs)) := same_upd h0
  have := (env.mono s2).set (i := i) (p := iz (yL r) xs) (v := .ref a) ⟨⟨a, vs, rfl, upd_same, Paired.imp2 (fun _ _ h => r.mono s2 h) h5⟩, h6⟩
  rw [set_same h1] at this
  exact k σ _ H ok2 this
theorem rt_frzY {α : Type} {r : Rep α} {xs : List α} {a : Addr} {j : Nat} {rt : VK} (hj : Θ[j]? = some (cY a r xs)) (k : Rt fr (Θ.eraseIdx j) rt (iz (yL r) xs)) : Rt fr Θ rt (zAt a) := fun v F H ok hp => by
  have hp : v = .ref a := hp
  subst hp
  obtain ⟨h0, ⟨o, h3, ⟨⟨vs, rfl, h5⟩, h6⟩⟩, _⟩ := ok.ce _ (List.mem_of_getElem? hj)
  have h3 : H a = some (.lst vs) := h3
  have ok2 := ok.frz hj rfl h3
  exact k _ _ H ok2 ⟨⟨a, vs, rfl, upd_same, Paired.imp2 (fun _ _ h => r.mono (same_upd h0) h) h5⟩, h6⟩
theorem kn_par {i j : Nat} {ta : TA} {D : Ends} (w : Wa fr Γ Θ ta fun ps Θ1 => ∃ p q, ps = [p, q] ∧ Kn fr ((Γ.set i (some p)).set j (some q)) Θ1 D.nx) : Kn fr Γ Θ (tPar i j ta D) := fun σ F H ok env =>
  w σ F H ok env _ fun ps Θ1 ⟨p, q, e, k⟩ vs F1 H1 s1 ok1 hps => by
    subst e
    cases hps with
    | cons h1 hp => cases hp with
      | cons h2 hp => cases hp with
        | nil => exact ⟨_, _, rfl, k _ F1 H1 ok1 (((env.mono s1).set h1).set h2)⟩
end
end L2
set_option Elab.async false
set_option linter.all false
set_option maxRecDepth 100000
set_option maxHeartbeats 4000000
namespace L2
open PySem PySem.Spec PyProof.Rows PySem.HErr
def preW {α β : Type} (ef : HE → Er) (args : α → List Vp) (r : Rep β) (m : α → DM β) : Pre := fun ps out err => ∃ x Q X, ps = args x ∧ m x Q X ∧ out = (fun p => ∃ y, Q y ∧ p = iz r y) ∧ err = fun e => ∃ z, X z ∧ e = ef z
def preBW {α β : Type} (args : α → List Vp) (r : Rep β) (m : α → DM β) : PreB := fun qs o => ∃ x Q, qs = args x ∧ m x Q noX ∧ o = fun p => ∃ y, Q y ∧ p = iz r y
def RetW {β : Type} (fr : Fr) (Qv : VK) (r : Rep β) (Q : β → Prop) : Prop := ∀ y, Q y → ∀ Θ, Rt fr Θ Qv (iz r y)
def RetBW {β : Type} (fr : Fr) (b l : Addr) (Qv : VK) (r : Rep β) (Q : β → Prop) : Prop := ∀ y, Q y → ∀ Θ, cBox true b l ∈ Θ → Rt fr Θ Qv (iz r y)
def RseW (fr : Fr) (E : XK) (ef : HE → Er) (X : HE → Prop) : Prop := ∀ z, X z → ∀ Γ Θ, Kr fr Γ Θ (fun cls d _ H => E cls d H) (ef z)
section
variable {fr fr' : Fr} {Γ Γ' : Gam} {Θ Θ' : List Cel} {F F' H H' : Hp} {K : Vp → List Cel → Prop} {Qv : VK}
theorem RetW.fine {β : Type} {r : Rep β} {Q : β → Prop} (h : RetW fr Qv r Q) (l : FrLe fr fr') : RetW fr' Qv r Q := fun y hy Θ => (h y hy Θ).fine l
theorem RetBW.fine {β : Type} {b l : Addr} {r : Rep β} {Q : β → Prop} (h : RetBW fr b l Qv r Q) (le : FrLe fr fr') : RetBW fr' b l Qv r Q := fun y hy Θ hc => (h y hy Θ hc).fine le
theorem RseW.fine {E : XK} {ef : HE → Er} {X : HE → Prop} (h : RseW fr E ef X) (l : FrLe fr fr') : RseW fr' E ef X := fun z hz Γ Θ σ F H ok env d us hd hf => h z hz Γ Θ σ F H (ok.le l) env d us hd hf
theorem sps_W {α β : Type} {ef : HE → Er} {args : α → List Vp} {r : Rep β} {m : α → DM β} {E : L2.St → XK} {ps : List Vp} {Q : β → Prop} {X : HE → Prop} (x : α) (h : m x Q X) (k : ∀ y, Q y → K (iz r y) Θ) (xx : ∀ z, X z → Kr fr Γ Θ (fun cls d σ H => E σ cls d H) (ef z)) (e : ps = args x := by rfl) : Sps fr Γ Θ (spA (preW ef args r m)) E ps K :=
  sps_A ⟨x, Q, X, e, h, rfl, rfl⟩ (fun p ⟨y, hy, e⟩ => by rw [e]; exact k y hy) fun er ⟨z, hz, e⟩ => by rw [e]; exact xx z hz
/-- nothing is raised -/
theorem sps_W0 {α β : Type} {ef : HE → Er} {args : α → List Vp} {r : Rep β} {m : α → DM β} {E : L2.St → XK} {ps : List Vp} {Q : β → Prop} (x : α) (h : m x Q noX) (k : ∀ y, Q y → K (iz r y) Θ) (e : ps = args x := by rfl) : Sps fr Γ Θ (spA (preW ef args r m)) E ps K := sps_W x h k (fun z hz => hz.elim) e
def drawD (m : Int) (k : Int → Prop) : Prop := 0 < m ∧ m ≤ 10 ^ 40 ∧ ∀ n, 0 ≤ n → n < m → k n
section
variable {Kf : PySem.W.Frag} {mg : Str → Option Value} {C : Addr} {d : PlanD}
theorem FldR.conv {f : Str} {p q q' : Vp} (h : FldR Kf f p q) (hq : ∀ F v u, p.p F v → q.p F u → q'.p F u) : FldR Kf f p q' := fun F v hp => by
  obtain ⟨a, C, dx, fs, u, h1, h2, h3, h4, h5, h6⟩ := h F v hp
  exact ⟨a, C, dx, fs, u, h1, h2, h3, h4, h5, hq F v u hp h6⟩
theorem wd_big {z : Str} (h : Wd z) : z.length ≤ big := Nat.le_trans h.len (by decide)
theorem fy_places (T : PlanC Kf mg C) : FldP fr Θ Kf "places" (iz (zPlan C) d) (iz (yT yS) d.places) := ((fld_places T.k).conv fun F v u hp hq => le_TT (Nat.le_trans (plan_ok hp).p12 (by decide)) (s := yS) (fun F v x hx h => ⟨h, wd_big ((plan_ok hp).pa x hx)⟩) F u hq).p
theorem fy_begin (T : PlanC Kf mg C) : FldP fr Θ Kf "begin" (iz (zPlan C) d) (iz (yT zI) d.begin) := ((fld_begin T.k).conv fun F v u hp hq => le_TT (Nat.le_trans (Nat.le_of_eq (plan_ok hp).bl) (Nat.le_trans (plan_ok hp).p12 (by decide))) (fun F v x hx h => h) F u hq).p
theorem PlanOk.nl (h : PlanOk d) : d.names.length ≤ 16 := by unfold PlanD.names; rw [List.length_map]; exact h.s16
theorem PlanOk.nw (h : PlanOk d) {z : Str} (hz : z ∈ d.names) : Wd z := by
  obtain ⟨r, hr, rfl⟩ := List.mem_map.mp hz
  exact (h.st r hr).1
theorem fy_steps (T : PlanC Kf mg C) : FldP fr Θ Kf "steps" (iz (zPlan C) d) (iz (yT yS) d.names) := ((fld_steps T.k).conv fun F v u hp hq => le_TT (Nat.le_trans (plan_ok hp).nl (by decide)) (s := yS) (fun F v x hx h => ⟨h, wd_big ((plan_ok hp).nw hx)⟩) F u hq).p
theorem KVs.imp {α : Type} {r s : Rep α} {kvs : List (Key × V)} {rows : List (Str × α)} (h : KVs r F kvs rows) (f : ∀ v x, x ∈ rows → r.p F v x.2 → s.p F v x.2) : KVs s F kvs rows := by
  have : ∀ {kvs : List (Key × V)} {rows : List (Str × α)}, KVs r F kvs rows → (∀ v x, x ∈ rows → r.p F v x.2 → s.p F v x.2) → KVs s F kvs rows := by
    intro kvs rows h
    induction h with
    | nil => intro _; exact .nil
    | cons a _ ih => intro f; exact .cons ⟨a.1, f _ _ (List.mem_cons_self ..) a.2⟩ (ih fun v x hx => f v x (List.mem_cons_of_mem _ hx))
  exact this h f
theorem PlanOk.tl (h : PlanOk d) {r : SRow} (hr : r ∈ d.steps) : r.2.1.length ≤ 12 ∧ r.2.2.length ≤ 12 := by
  obtain ⟨_, _, h1, h2⟩ := h.st r hr
  have a1 := List.length_filter_le (fun p => decide (p ∈ r.2.1)) d.places
  have a2 := List.length_filter_le (fun p => decide (p ∈ r.2.2)) d.places
  have e1 : (d.places.filter fun p => decide (p ∈ r.2.1)) = r.2.1 := h1
  have e2 : (d.places.filter fun p => decide (p ∈ r.2.2)) = r.2.2 := h2
  rw [e1] at a1
  rw [e2] at a2
  have := h.p12
  exact ⟨by omega, by omega⟩
theorem fy_taken (T : PlanC Kf mg C) : FldP fr Θ Kf "taken" (iz (zPlan C) d) (iz (yD (yT yS)) d.tk) := ((fld_taken T.k).conv fun F v u hp hq => by
  have pk := plan_ok hp
  obtain ⟨a, kvs, h1, h2, h3⟩ := hq
  refine ⟨⟨a, kvs, h1, h2, h3.imp fun v x hx h => ?_⟩, by unfold PlanD.tk; rw [List.length_map]; exact Nat.le_trans pk.s16 (by decide)⟩
  obtain ⟨r, hr, rfl⟩ := List.mem_map.mp hx
  exact le_TT (Nat.le_trans (pk.tl hr).1 (by decide)) (s := yS) (fun F v x hx h => ⟨h, wd_big (pk.pa x (pk.tk hr hx))⟩) F v h).p
theorem fy_given (T : PlanC Kf mg C) : FldP fr Θ Kf "given" (iz (zPlan C) d) (iz (yD (yT yS)) d.gv) := ((fld_given T.k).conv fun F v u hp hq => by
  have pk := plan_ok hp
  obtain ⟨a, kvs, h1, h2, h3⟩ := hq
  refine ⟨⟨a, kvs, h1, h2, h3.imp fun v x hx h => ?_⟩, by unfold PlanD.gv; rw [List.length_map]; exact Nat.le_trans pk.s16 (by decide)⟩
  obtain ⟨r, hr, rfl⟩ := List.mem_map.mp hx
  exact le_TT (Nat.le_trans (pk.tl hr).2 (by decide)) (s := yS) (fun F v x hx h => ⟨h, wd_big (pk.pa x (pk.gv hr hx))⟩) F v h).p
end
def DicY {α : Type} (fr : Fr) (Θ : List Cel) (p : Vp) (r : Rep α) (rows : List (Str × α)) : Prop := DicP fr Θ p r rows ∧ ∀ F H v, OkF fr Θ F H → p.p F v → rows.length ≤ big
theorem dy_D {α : Type} {r : Rep α} {rows : List (Str × α)} : DicY fr Θ (iz (yD r) rows) r rows := ⟨fun F H v ok h => dic_D F H v ok h.1, fun _ _ _ _ h => h.2⟩
theorem wy_dget {td ty : TE} (w : We fr Γ Θ td fun p Θ1 => We fr Γ Θ1 ty fun q Θ2 => ∃ (α : Type) (r : Rep α) (rows : List (Str × α)) (n : Str) (x : α), DicY fr Θ2 p r rows ∧ q = iz yS n ∧ getR rows n = some x ∧ K (iz r x) Θ2) : We fr Γ Θ (tDGet td ty) K := we_dget (w.imp fun p Θ1 w1 => We.conv (w1.imp fun q Θ2 ⟨α, r, rows, n, x, h1, h2, h3, h4⟩ => ⟨iz zS n, by rw [h2]; exact le_zS, α, r, rows, n, x, h1.1, rfl, h3, h4⟩))
theorem kn_raiseY {tm : Bool} {C : Addr} {fs : List Str} {W : WX} {ta : TA} {D : Ends} (w : Wa fr Γ Θ ta fun ps Θ1 => ps.length = fs.length ∧ (tm = true → ∃ z r, ps = iz yS z :: r ∧ z.length ≤ 1000) ∧ Kr fr Γ Θ1 W ⟨C, (fs.zip ps).reverse⟩) : Kn fr Γ Θ (tRaiseE tm C fs W ta D) := fun σ F H ok env =>
  w σ F H ok env _ fun ps Θ1 ⟨hl, ht, k⟩ vs F1 H1 s1 ok1 hps => by
    refine ⟨by rw [← Paired.len hps]; exact hl, fun h => ?_, fun d nd => ?_⟩
    · obtain ⟨z, r, e, hz⟩ := ht h
      subst e
      cases hps with
      | cons a b => exact ⟨z, _, by rw [a.1.1], hz⟩
    · have s2 := ok1.sameF (o := .xd (fs.zip vs).reverse) nd
      exact k σ _ _ (ok1.new nd) ((env.mono s1).mono s2) d _ upd_same (Paired.rev (zip_ok (fs := fs) (ps_mono s2 hps)))
def erW (cs : EK → Addr) : HE → Er
  | .tooMany k l => ⟨cs .tooMany, [("limit", iz zI l), ("kind", iz yS k)]⟩
  | .badWord w => ⟨cs .badWord, [("word", iz yS w)]⟩
  | .double n => ⟨cs .double, [("name", iz yS n)]⟩
  | .badNumber n => ⟨cs .badNumber, [("number", iz zI n)]⟩
  | .empty n => ⟨cs .empty, [("name", iz yS n)]⟩
  | .unknown n => ⟨cs .unknown, [("name", iz yS n)]⟩
  | .inUse n => ⟨cs .inUse, [("name", iz yS n)]⟩
  | .badState ns => ⟨cs .badState, [("numbers", iz (yT zI) ns)]⟩
  | .notReady s p i => ⟨cs .notReady, [("at", iz zI i), ("place", iz yS p), ("step", iz yS s)]⟩
  | .notSound d => ⟨cs .notSound, [("paper", iz yX d)]⟩
  | .badPair n => ⟨cs .badPair, [("name", iz yS n)]⟩
  | .badText n => ⟨cs .badText, [("line_number", iz zI n)]⟩
  | .noUndo => ⟨cs .noUndo, []⟩
instance : Dat yS := ⟨PyData.str, 0, fun h => Dat.dp (r := zS) h.1, fun h => Dat.ok (r := zS) h.1, fun x => Dat.dl (r := zS) x, fun h => Dat.inj (r := zS) h⟩
instance {α : Type} {r : Rep α} [d : Dat r] : Dat (yL r) := ⟨Dat.enc (zL r), Dat.dep (zL r), fun h => Dat.dp (r := zL r) h.1, fun h => Dat.ok (r := zL r) h.1, fun x => Dat.dl (r := zL r) x, fun h => Dat.inj (r := zL r) h⟩
instance {α : Type} [TNar α] {r : Rep α} [d : Dat r] : Dat (yT r) := ⟨Dat.enc (zT r), Dat.dep (zT r), fun h => Dat.dp (r := zT r) h.1, fun h => Dat.ok (r := zT r) h.1, fun x => Dat.dl (r := zT r) x, fun h => Dat.inj (r := zT r) h⟩
end
section
variable {P : Program} {w : World} {K : PySem.W.Frag} {mg : Str → Option Value} {base : Heap} {x m qual : Str} {C : Addr} {st : Stmt} {N ps : List Str} {k : Nat} {α β : Type} {ef : HE → Er} {args : α → List Vp} {r : Rep β} {md : α → DM β}
theorem Src.okW (F : Src K mg x st ps) (S : FnScope N ps (defScope st)) (len : ∀ x, (args x).length = ps.length)
    (hbody : ∀ (f : Addr) (cdv : Value) (A : Around) (outer : List Env) (s : Shared) (H : Hp) (E : XK) (a : α) (Q : β → Prop) (X : HE → Prop), Room k (A.deeper (envOfC x (defScope st) s.heap.objs.size f cdv)) → md a Q X →
      ∃ t, PSs (cxOf CX0 P w K mg base N x (defScope st) f cdv A outer s H E).nox (defBody st) t ∧ ∀ fr Qv, RetW fr Qv r Q → Kn fr (envOf N (args a)) [] (t { nx := fun _ H' => Qv .non H', rt := Qv })) : Def P w K mg base CX0 (k + 1) x ps (spA (preW ef args r md)) :=
  F.okA S (fun qs out err ⟨a, Q, X, e, _⟩ => by rw [e]; exact len a) fun f cdv A outer s H E qs out err hr ⟨a, Q, X, e1, h, e2, e3⟩ => by
    subst e1 e2 e3
    obtain ⟨t, ht, hk⟩ := hbody f cdv A outer s H E a Q X hr h
    exact ⟨t, ht, fun fr Qv hret => hk fr Qv fun y hy Θ => hret _ ⟨y, hy, rfl⟩ Θ⟩
theorem Src.okWX (F : Src K mg x st ps) (S : FnScope N ps (defScope st)) (len : ∀ x, (args x).length = ps.length)
    (hbody : ∀ (f : Addr) (cdv : Value) (A : Around) (outer : List Env) (s : Shared) (H : Hp) (E : XK) (a : α) (Q : β → Prop) (X : HE → Prop), Room k (A.deeper (envOfC x (defScope st) s.heap.objs.size f cdv)) → md a Q X →
      ∃ t, PSs (cxOf (L2.CX P w) P w K mg base N x (defScope st) f cdv A outer s H E) (defBody st) t ∧ ∀ fr Qv, RetW fr Qv r Q → RseW fr E ef X → Kn fr (envOf N (args a)) [] (t { nx := fun _ H' => Qv .non H', rt := Qv })) : Def P w K mg base (L2.CX P w) (k + 1) x ps (spA (preW ef args r md)) :=
  F.okAX S (fun qs out err ⟨a, Q, X, e, _⟩ => by rw [e]; exact len a) fun f cdv A outer s H E qs out err hr ⟨a, Q, X, e1, h, e2, e3⟩ => by
    subst e1 e2 e3
    obtain ⟨t, ht, hk⟩ := hbody f cdv A outer s H E a Q X hr h
    exact ⟨t, ht, fun fr Qv hret hrse => hk fr Qv (fun y hy Θ => hret _ ⟨y, hy, rfl⟩ Θ) fun z hz Γ Θ => kr_E hrse ⟨z, hz, rfl⟩⟩
theorem SrcM.okW (F : SrcM K C m qual st ps) (S : FnScope N ps (defScope st)) (len : ∀ x, (args x).length = ps.length)
    (hbody : ∀ (f : Addr) (cdv : Value) (A : Around) (outer : List Env) (s : Shared) (H : Hp) (E : XK) (a : α) (Q : β → Prop) (X : HE → Prop), Room k (A.deeper (envOfC qual (defScope st) s.heap.objs.size f cdv)) → md a Q X →
      ∃ t, PSs (cxOf CX0 P w K mg base N qual (defScope st) f cdv A outer s H E).nox (defBody st) t ∧ ∀ fr Qv, RetW fr Qv r Q → Kn fr (envOf N (args a)) [] (t { nx := fun _ H' => Qv .non H', rt := Qv })) : DefM P w K mg base CX0 (k + 1) C m ps (spA (preW ef args r md)) :=
  F.okA S (fun qs out err ⟨a, Q, X, e, _⟩ => by rw [e]; exact len a) fun f cdv A outer s H E qs out err hr ⟨a, Q, X, e1, h, e2, e3⟩ => by
    subst e1 e2 e3
    obtain ⟨t, ht, hk⟩ := hbody f cdv A outer s H E a Q X hr h
    exact ⟨t, ht, fun fr Qv hret => hk fr Qv fun y hy Θ => hret _ ⟨y, hy, rfl⟩ Θ⟩
theorem SrcM.okWX (F : SrcM K C m qual st ps) (S : FnScope N ps (defScope st)) (len : ∀ x, (args x).length = ps.length)
    (hbody : ∀ (f : Addr) (cdv : Value) (A : Around) (outer : List Env) (s : Shared) (H : Hp) (E : XK) (a : α) (Q : β → Prop) (X : HE → Prop), Room k (A.deeper (envOfC qual (defScope st) s.heap.objs.size f cdv)) → md a Q X →
      ∃ t, PSs (cxOf (L2.CX P w) P w K mg base N qual (defScope st) f cdv A outer s H E) (defBody st) t ∧ ∀ fr Qv, RetW fr Qv r Q → RseW fr E ef X → Kn fr (envOf N (args a)) [] (t { nx := fun _ H' => Qv .non H', rt := Qv })) : DefM P w K mg base (L2.CX P w) (k + 1) C m ps (spA (preW ef args r md)) :=
  F.okAX S (fun qs out err ⟨a, Q, X, e, _⟩ => by rw [e]; exact len a) fun f cdv A outer s H E qs out err hr ⟨a, Q, X, e1, h, e2, e3⟩ => by
    subst e1 e2 e3
    obtain ⟨t, ht, hk⟩ := hbody f cdv A outer s H E a Q X hr h
    exact ⟨t, ht, fun fr Qv hret hrse => hk fr Qv (fun y hy Θ => hret _ ⟨y, hy, rfl⟩ Θ) fun z hz Γ Θ => kr_E hrse ⟨z, hz, rfl⟩⟩
end
end L2
set_option Elab.async false
set_option linter.all false
set_option maxRecDepth 100000
set_option maxHeartbeats 4000000
namespace L2
open PySem PySem.Spec PyProof.Rows PySem.HErr
def optD {α : Type} (o : Option α) (A : Prop) (B : α → Prop) : Prop := (o = none → A) ∧ ∀ y, o = some y → B y
section
variable {fr fr' : Fr} {Γ Γ' : Gam} {Θ Θ' : List Cel} {F F' H H' : Hp} {K : Vp → List Cel → Prop} {Qv : VK}
theorem wt_andP {K : Bool → List Cel → Prop} {t u : TT} (w : Wt fr Γ Θ t fun b Θ1 => ∃ c, (b = true → Et fr Γ Θ1 u c) ∧ K (b && c) Θ1) : Wt fr Γ Θ (tAnd t u) K :=
  wt_andC fun σ F H ok env Q q => w σ F H ok env Q fun b Θ1 ⟨c, h1, k⟩ => q b Θ1 ⟨fun e σ F H ok env Q q => h1 e σ F H ok env Q fun c' Θ' ⟨e1, e2⟩ => q c' Θ' (by
    subst e1 e2 e
    exact k), fun e => by
    subst e
    exact k⟩
theorem wt_orP {K : Bool → List Cel → Prop} {t u : TT} (w : Wt fr Γ Θ t fun b Θ1 => ∃ c, (b = false → Et fr Γ Θ1 u c) ∧ K (b || c) Θ1) : Wt fr Γ Θ (tOr t u) K :=
  wt_orC fun σ F H ok env Q q => w σ F H ok env Q fun b Θ1 ⟨c, h1, k⟩ => q b Θ1 ⟨fun e σ F H ok env Q q => h1 e σ F H ok env Q fun c' Θ' ⟨e1, e2⟩ => q c' Θ' (by
    subst e1 e2 e
    exact k), fun e => by
    subst e
    exact k⟩
theorem we_andP {t u : TE} (w : We fr Γ Θ t fun p Θ1 => ∃ b c, p = iz zB b ∧ (b = true → Ev fr Γ Θ1 u (iz zB c)) ∧ K (iz zB (b && c)) Θ1) : We fr Γ Θ (tAndV t u) K :=
  we_andC (w.imp fun p Θ1 ⟨b, c, e, h1, k⟩ => ⟨b, e, fun e => (h1 e).imp fun p Θ' ⟨e1, e2⟩ => by
    subst e1 e2 e
    exact k, fun e => by
    subst e
    exact k⟩)
instance : NotNon yS := ⟨fun F v x h => by rw [h.1.1]; exact fun q => by cases q⟩
instance {α : Type} {r : Rep α} : NotNon (yL r) := ⟨fun F v x h => NotNon.nn (r := zL r) F v x h.1⟩
instance {α : Type} [TNar α] {r : Rep α} : NotNon (yT r) := ⟨fun F v x h => NotNon.nn (r := zT r) F v x h.1⟩
instance {α : Type} {r : Rep α} : NotNon (yD r) := ⟨fun F v x ⟨⟨a, kvs, h, _⟩, _⟩ => by rw [h]; exact fun q => by cases q⟩
instance {α β : Type} {r : Rep α} {s : Rep β} : NotNon (zLp r s) := ⟨fun F v x ⟨a, u, w, h, _⟩ => by rw [h]; exact fun q => by cases q⟩
instance {α β γ δ : Type} {r : Rep α} {s : Rep β} {t : Rep γ} {u : Rep δ} : NotNon (z4 r s t u) := ⟨fun F v x ⟨a, v1, v2, v3, v4, h, _⟩ => by rw [h]; exact fun q => by cases q⟩
instance {C : Addr} : NotNon (zPlan C) := ⟨fun F v x ⟨a, h, _⟩ => by rw [h]; exact fun q => by cases q⟩
theorem oy_isO {α : Type} {r : Rep α} [NotNon r] {o : Option α} (k : K (iz zB o.isNone) Θ) : Ops fr Θ (fun x y H Q => y = .non ∧ Q (.bl (decide (x = .non))) H) (iz (yO r) o) (iz yN ()) K := fun F H v w ok hv hw Q q => by
  refine ⟨hw, q.go k ok ?_⟩
  show V.bl _ = V.bl _
  cases o with
  | none => rw [show v = .non from hv]; rfl
  | some x => rw [decide_eq_false (NotNon.nn F v x hv)]; rfl
theorem oy_notO {α : Type} {r : Rep α} [NotNon r] {o : Option α} (k : K (iz zB o.isSome) Θ) : Ops fr Θ (fun x y H Q => y = .non ∧ Q (.bl (!decide (x = .non))) H) (iz (yO r) o) (iz yN ()) K := fun F H v w ok hv hw Q q => by
  refine ⟨hw, q.go k ok ?_⟩
  show V.bl _ = V.bl _
  cases o with
  | none => rw [show v = .non from hv]; rfl
  | some x => rw [decide_eq_false (NotNon.nn F v x hv)]; rfl
theorem optKn {α : Type} {o : Option α} {A : Prop} {B : α → Prop} {G1 G2 : Prop} (h : optD o A B) (h1 : o = none → A → G1) (h2 : ∀ y, o = some y → B y → G2) : (o.isSome = true → G2) ∧ (o.isSome = false → G1) := by
  cases o with
  | none => exact ⟨(fun e => by cases e), fun _ => h1 rfl (h.1 rfl)⟩
  | some y => exact ⟨fun _ => h2 y rfl (h.2 y rfl), (fun e => by cases e)⟩
theorem ty_L' {Kf : PySem.W.Frag} {α : Type} {r : Rep α} {xs : List α} : TruP fr Θ Kf (iz (yL r) xs) (!xs.isEmpty) := fun F H v ok h => tru_L F H v ok h.1
theorem ty_C' {Kf : PySem.W.Frag} {α : Type} {r : Rep α} {xs : List α} {a : Addr} {j : Nat} (hj : Θ[j]? = some (cY a r xs)) : TruP fr Θ Kf (zAt a) (!xs.isEmpty) := fun F H v ok hv => by
  have hv : v = .ref a := hv
  subst hv
  obtain ⟨_, ⟨o, h2, ⟨⟨vs, rfl, h4⟩, h5⟩⟩, _⟩ := ok.ce _ (List.mem_of_getElem? hj)
  exact .inl ⟨vs, SqL.of h2, by rw [emp_len h4]⟩
theorem le_Os {α : Type} {r : Rep α} {x : α} : (iz r x).Le (iz (yO r) (some x)) := fun F v h => h
theorem le_On {α : Type} {r : Rep α} : (iz yN ()).Le (iz (yO r) none) := fun F v h => h
theorem kn_asgL {α : Type} {r : Rep α} {te : TE} {i : Nat} {D : Ends} (w : We fr Γ Θ te fun p Θ1 => ∃ v : α, p = iz r v ∧ ∀ v', v' = v → Kn fr (Γ.set i (some (iz r v'))) Θ1 D.nx) : Kn fr Γ Θ (tAsg te (gName i) D) := kn_asg (w.imp fun p Θ1 ⟨v, e, k⟩ => by
  subst e
  exact k v rfl)
theorem intsF_big {n : Int} (h : n ≤ 100000) : (intsF 0 n.toNat).length ≤ big := by
  rw [intsF_len]
  have : big = 100000 := rfl
  omega
end
end L2
set_option Elab.async false
set_option linter.all false
set_option maxRecDepth 100000
set_option maxHeartbeats 4000000
namespace L2
open PySem PySem.Spec PyProof.Rows PySem.HErr
section
variable {fr fr' : Fr} {Γ Γ' : Gam} {Θ Θ' : List Cel} {F F' H H' : Hp} {K : Vp → List Cel → Prop} {Qv : VK}
theorem depth_mem {ds : List PyData} {d : PyData} {n : Nat} (h : PyData.depthAll ds ≤ n) (hd : d ∈ ds) : d.depth ≤ n := by
  induction ds with
  | nil => cases hd
  | cons a l ih =>
    simp only [PyData.depthAll] at h
    rcases List.mem_cons.mp hd with rfl | hd
    · omega
    · exact ih (by omega) hd
theorem xpAll_pvs : ∀ {ds : List PyData} {vs : List V}, xpAll F ds vs → (∀ d ∈ ds, d.depth ≤ 60) → PVs yX F vs ds
  | [], _, h, _ => by simp only [xpAll] at h; subst h; exact .nil
  | d :: ds, _, h, hd => by
    simp only [xpAll] at h
    obtain ⟨v, r, rfl, h2, h3⟩ := h
    exact .cons ⟨h2, hd d (List.mem_cons_self ..)⟩ (xpAll_pvs h3 fun x hx => hd x (List.mem_cons_of_mem _ hx))
class XDat {α : Type} (r : Rep α) where
  enc : α → PyData
  dep : Nat
  xd : ∀ {F : Hp} {v : V} {x : α}, r.p F v x → xp F (enc x) v ∧ (enc x).depth ≤ dep
instance : XDat yX := ⟨id, 60, fun h => h⟩
instance : XDat zI := ⟨PyData.int, 0, fun h => by simp only [xp, PyData.depth]; exact ⟨h, Nat.le_refl _⟩⟩
instance : XDat yN := ⟨fun _ => PyData.none, 0, fun h => by simp only [xp, PyData.depth]; exact ⟨h, Nat.le_refl _⟩⟩
instance : XDat yS := ⟨PyData.str, 0, fun h => by simp only [xp, PyData.depth]; exact ⟨⟨h.1.1, h.1.2, h.2⟩, Nat.le_refl _⟩⟩
theorem xd_all {α : Type} {r : Rep α} [d : XDat r] {vs : List V} {xs : List α} (h : PVs r F vs xs) : xpAll F (xs.map d.enc) vs ∧ PyData.depthAll (xs.map d.enc) ≤ d.dep := by
  induction h with
  | nil => exact ⟨by simp only [List.map_nil, xpAll], by simp only [List.map_nil, PyData.depthAll]; exact Nat.zero_le _⟩
  | cons a _ ih =>
    simp only [List.map_cons, xpAll, PyData.depthAll]
    have := (d.xd a).2
    have := ih.2
    exact ⟨⟨_, _, rfl, (d.xd a).1, ih.1⟩, by omega⟩
instance {α : Type} {r : Rep α} [d : XDat r] : XDat (yL r) := ⟨fun xs => .list (xs.map d.enc), d.dep + 1, fun ⟨⟨a, vs, h1, h2, h3⟩, h4⟩ => by
  have := (xd_all h3).2
  simp only [xp, PyData.depth]
  exact ⟨⟨a, vs, h1, h2, by rw [List.length_map]; exact h4, (xd_all h3).1⟩, by omega⟩⟩
/-- data of these things stand as the things -/
class XNar {α : Type} [TNar α] (r : Rep α) [XDat r] : Prop where
  nx : ∀ xs : List α, TNar.nar xs = true ∨ TNar.nar (xs.map (XDat.enc (r := r))) = TNar.nar xs
instance {α : Type} [TNar α] [TAll α] {r : Rep α} [XDat r] : XNar r := ⟨fun xs => .inl (TAll.all xs)⟩
theorem isSDs_strs (xs : List Str) : isSDs (xs.map PyData.str) = !xs.isEmpty := by
  unfold isSDs
  have : (xs.map PyData.str).all isSD = true := List.all_eq_true.mpr fun x hx => by
    obtain ⟨y, _, rfl⟩ := List.mem_map.mp hx
    rfl
  rw [this, Bool.and_true]
  cases xs <;> rfl
theorem isSDs_no {ds : List PyData} {d : PyData} (h : d ∈ ds) (e : isSD d = false) : isSDs ds = false := by
  unfold isSDs
  rw [show ds.all isSD = false from List.all_eq_false.mpr ⟨d, h, by rw [e]; exact Bool.false_ne_true⟩, Bool.and_false]
instance : XNar yS := ⟨fun xs => .inr (by show (!isSDs (xs.map PyData.str)) = xs.isEmpty; rw [isSDs_strs, Bool.not_not])⟩
instance : XNar yX := ⟨fun xs => .inr (by rw [show (XDat.enc (r := yX)) = id from rfl, List.map_id])⟩
theorem XNar.tup {α : Type} [TNar α] {r : Rep α} [XDat r] [k : XNar r] {F : Hp} {a : Addr} {vs : List V} {xs : List α} (h : TupB (TNar.nar xs) F a vs) : TupB (TNar.nar (xs.map (XDat.enc (r := r)))) F a vs := (k.nx xs).elim (fun e => .inl (h.nar e)) fun e => by rw [e]; exact h
instance {α : Type} [TNar α] {r : Rep α} [d : XDat r] [XNar r] : XDat (yT r) := ⟨fun xs => .tuple (xs.map d.enc), d.dep + 1, fun ⟨⟨a, vs, h1, h2, h3⟩, h4⟩ => by
  have := (xd_all h3).2
  simp only [xp, PyData.depth]
  exact ⟨⟨a, vs, h1, XNar.tup h2, by rw [List.length_map]; exact h4, (xd_all h3).1⟩, by omega⟩⟩
instance {α : Type} {r : Rep α} [d : XDat r] : XDat (z1 r) := ⟨fun x => .tuple [d.enc x], d.dep + 1, fun ⟨a, v1, h1, h2, h3⟩ => by
  have := (d.xd h3).2
  simp only [xp, xpAll, PyData.depth, PyData.depthAll]
  exact ⟨⟨a, _, h1, .inl h2, by show 1 ≤ big; decide, _, _, rfl, (d.xd h3).1, rfl⟩, by omega⟩⟩
instance {α β : Type} {r : Rep α} {s : Rep β} [d : XDat r] [e : XDat s] : XDat (z2 r s) := ⟨fun x => .tuple [d.enc x.1, e.enc x.2], max d.dep e.dep + 1, fun ⟨a, u, w, h1, h2, h3, h4⟩ => by
  have := (d.xd h3).2
  have := (e.xd h4).2
  simp only [xp, xpAll, PyData.depth, PyData.depthAll]
  exact ⟨⟨a, _, h1, .inl h2, by show 2 ≤ big; decide, _, _, rfl, (d.xd h3).1, _, _, rfl, (e.xd h4).1, rfl⟩, by omega⟩⟩
instance {α β γ : Type} {r : Rep α} {s : Rep β} {t : Rep γ} [d : XDat r] [e : XDat s] [f : XDat t] : XDat (z3 r s t) := ⟨fun x => .tuple [d.enc x.1, e.enc x.2.1, f.enc x.2.2], max d.dep (max e.dep f.dep) + 1, fun ⟨a, u, w, z, h1, h2, h3, h4, h5⟩ => by
  have := (d.xd h3).2
  have := (e.xd h4).2
  have := (f.xd h5).2
  simp only [xp, xpAll, PyData.depth, PyData.depthAll]
  exact ⟨⟨a, _, h1, .inl h2, by show 3 ≤ big; decide, _, _, rfl, (d.xd h3).1, _, _, rfl, (e.xd h4).1, _, _, rfl, (f.xd h5).1, rfl⟩, by omega⟩⟩
instance {α β γ δ : Type} {r : Rep α} {s : Rep β} {t : Rep γ} {u : Rep δ} [d : XDat r] [e : XDat s] [f : XDat t] [g : XDat u] : XDat (z4 r s t u) := ⟨fun x => .tuple [d.enc x.1, e.enc x.2.1, f.enc x.2.2.1, g.enc x.2.2.2], max (max d.dep e.dep) (max f.dep g.dep) + 1, fun ⟨a, v1, v2, v3, v4, h1, h2, h3, h4, h5, h6⟩ => by
  have := (d.xd h3).2
  have := (e.xd h4).2
  have := (f.xd h5).2
  have := (g.xd h6).2
  simp only [xp, xpAll, PyData.depth, PyData.depthAll]
  exact ⟨⟨a, _, h1, .inl h2, by show 4 ≤ big; decide, _, _, rfl, (d.xd h3).1, _, _, rfl, (e.xd h4).1, _, _, rfl, (f.xd h5).1, _, _, rfl, (g.xd h6).1, rfl⟩, by omega⟩⟩
instance {α β : Type} {r : Rep α} {s : Rep β} [d : XDat r] [e : XDat s] : XDat (zLp r s) := ⟨fun x => .list [d.enc x.1, e.enc x.2], max d.dep e.dep + 1, fun ⟨a, u, w, h1, h2, h3, h4⟩ => by
  have := (d.xd h3).2
  have := (e.xd h4).2
  simp only [xp, xpAll, PyData.depth, PyData.depthAll]
  exact ⟨⟨a, _, h1, h2, by show 2 ≤ big; decide, _, _, rfl, (d.xd h3).1, _, _, rfl, (e.xd h4).1, rfl⟩, by omega⟩⟩
instance {α β γ : Type} {r : Rep α} {s : Rep β} {t : Rep γ} [d : XDat r] [e : XDat s] [f : XDat t] : XDat (zL3 r s t) := ⟨fun x => .list [d.enc x.1, e.enc x.2.1, f.enc x.2.2], max d.dep (max e.dep f.dep) + 1, fun ⟨a, u, w, z, h1, h2, h3, h4, h5⟩ => by
  have := (d.xd h3).2
  have := (e.xd h4).2
  have := (f.xd h5).2
  simp only [xp, xpAll, PyData.depth, PyData.depthAll]
  exact ⟨⟨a, _, h1, h2, by show 3 ≤ big; decide, _, _, rfl, (d.xd h3).1, _, _, rfl, (e.xd h4).1, _, _, rfl, (f.xd h5).1, rfl⟩, by omega⟩⟩
instance {α : Type} {r : Rep α} [d : XDat r] : XDat (yO r) := ⟨fun o => match o with | none => .none | some x => d.enc x, d.dep, fun {F v x} h => by
  cases x with
  | none => simp only [xp, PyData.depth]; exact ⟨h, Nat.zero_le _⟩
  | some y => exact d.xd h⟩
theorem le_XT {x : PyData} {ds : List PyData} (e : x = .tuple ds) : (iz yX x).Le (iz (yT yX) ds) := fun F v h => by
  subst e
  obtain ⟨h, hd⟩ := h
  simp only [xp] at h
  simp only [PyData.depth] at hd
  obtain ⟨a, vs, h1, h2, h3, h4⟩ := h
  exact ⟨⟨a, vs, h1, h2, xpAll_pvs h4 fun d hm => depth_mem (n := 60) (by omega) hm⟩, h3⟩
mutual
theorem xp_dp {Kf : PySem.W.Frag} : ∀ (d : PyData) (v : V), xp F d v → Dp Kf F v d ∧ nb d = true
  | .none, _, h => by simp only [xp] at h; subst h; exact ⟨.non, rfl⟩
  | .int _, _, h => by simp only [xp] at h; subst h; exact ⟨.int _, rfl⟩
  | .str _, _, h => by
    simp only [xp] at h
    obtain ⟨rfl, h2, _⟩ := h
    exact ⟨.str _, h2.ok⟩
  | .bool _, _, h => by simp only [xp] at h
  | .dict _, _, h => by simp only [xp] at h
  | .list ds, _, h => by
    simp only [xp] at h
    obtain ⟨a, vs, rfl, h2, _, h4⟩ := h
    obtain ⟨g1, g2⟩ := xpAll_dp (Kf := Kf) ds vs h4
    exact ⟨.lst (SqL.of h2) g1, g2⟩
  | .tuple ds, _, h => by
    simp only [xp] at h
    obtain ⟨a, vs, rfl, h2, _, h4⟩ := h
    obtain ⟨g1, g2⟩ := xpAll_dp (Kf := Kf) ds vs h4
    exact ⟨.tup (h2.sq (Same.refl _)) g1, g2⟩
theorem xpAll_dp {Kf : PySem.W.Frag} : ∀ (ds : List PyData) (vs : List V), xpAll F ds vs → DpAll Kf F vs ds ∧ nbAll ds = true
  | [], _, h => by simp only [xpAll] at h; subst h; exact ⟨.nil, rfl⟩
  | d :: ds, _, h => by
    simp only [xpAll] at h
    obtain ⟨v, r, rfl, h2, h3⟩ := h
    obtain ⟨g1, g2⟩ := xp_dp (Kf := Kf) d v h2
    obtain ⟨g3, g4⟩ := xpAll_dp (Kf := Kf) ds r h3
    exact ⟨.cons g1 g3, by show (nb d && nbAll ds) = true; rw [g2, g4]; rfl⟩
end
/-- papers: data that is a tuple -/
def pit : PyData → List PyData
  | .tuple ds => ds
  | _ => []
def yP : Rep PyData := ⟨fun F v d => (xp F d v ∧ d.depth ≤ 60) ∧ d = .tuple (pit d), fun e h => ⟨⟨xp_mono e _ _ h.1.1, h.1.2⟩, h.2⟩⟩
class PDat {α : Type} (r : Rep α) [d : XDat r] : Prop where
  t : ∀ x, d.enc x = .tuple (pit (d.enc x))
instance {α : Type} {r : Rep α} [XDat r] : PDat (z1 r) := ⟨fun _ => rfl⟩
instance {α : Type} [TNar α] {r : Rep α} [XDat r] [XNar r] : PDat (yT r) := ⟨fun _ => rfl⟩
instance {α β : Type} {r : Rep α} {s : Rep β} [XDat r] [XDat s] : PDat (z2 r s) := ⟨fun _ => rfl⟩
instance {α β γ : Type} {r : Rep α} {s : Rep β} {t : Rep γ} [XDat r] [XDat s] [XDat t] : PDat (z3 r s t) := ⟨fun _ => rfl⟩
instance {α β γ δ : Type} {r : Rep α} {s : Rep β} {t : Rep γ} {u : Rep δ} [XDat r] [XDat s] [XDat t] [XDat u] : PDat (z4 r s t u) := ⟨fun _ => rfl⟩
theorem le_PT {x : PyData} : (iz yP x).Le (iz (yT yX) (pit x)) := fun F v h => le_XT h.2 F v h.1
instance : XDat yP := ⟨id, 60, fun h => h.1⟩
instance : NotNon yP := ⟨fun F v x h q => by
  obtain ⟨⟨a, vs, h1, _⟩, _⟩ := le_PT F v h
  rw [q] at h1
  cases h1⟩
end
end L2
set_option Elab.async false
set_option linter.all false
set_option maxRecDepth 100000
set_option maxHeartbeats 4000000
namespace L2
open PySem PySem.Spec PyProof.Rows PySem.HErr
section
variable {fr fr' : Fr} {Γ Γ' : Gam} {Θ Θ' : List Cel} {F F' H H' : Hp} {K : Vp → List Cel → Prop} {Qv : VK}
def MkPr (fr : Fr) (Γ : Gam) (Θ : List Cel) (pre : Pre) (E : L2.St → XK) (ps : List Vp) (K : Vp → List Cel → Prop) : Prop := ∃ out err, pre ps out err ∧ (∀ p, out p → K p Θ) ∧ ∀ e, err e → Kr fr Γ Θ (fun cls d σ H => E σ cls d H) e
theorem we_mkP {C : Addr} {pre : Pre} {E : L2.St → XK} {t : TA} (w : Wa fr Γ Θ t fun ps Θ1 => MkPr fr Γ Θ1 pre E ps K) : We fr Γ Θ (tMkD C (spI C pre) E t) K := we_mk w
theorem mkW {α β : Type} {ef : HE → Er} {args : α → List Vp} {r : Rep β} {m : α → DM β} {E : L2.St → XK} {ps : List Vp} {Q : β → Prop} {X : HE → Prop} (x : α) (h : m x Q X) (k : ∀ y, Q y → K (iz r y) Θ) (xx : ∀ z, X z → Kr fr Γ Θ (fun cls d σ H => E σ cls d H) (ef z)) (e : ps = args x := by rfl) : MkPr fr Γ Θ (preW ef args r m) E ps K :=
  ⟨_, _, ⟨x, Q, X, e, h, rfl, rfl⟩, fun p ⟨y, hy, e⟩ => by rw [e]; exact k y hy, fun er ⟨z, hz, e⟩ => by rw [e]; exact xx z hz⟩
theorem mkW0 {α β : Type} {ef : HE → Er} {args : α → List Vp} {r : Rep β} {m : α → DM β} {E : L2.St → XK} {ps : List Vp} {Q : β → Prop} (x : α) (h : m x Q noX) (k : ∀ y, Q y → K (iz r y) Θ) (e : ps = args x := by rfl) : MkPr fr Γ Θ (preW ef args r m) E ps K := mkW x h k (fun z hz => hz.elim) e
theorem mkWE {α β : Type} {ef : HE → Er} {args : α → List Vp} {r : Rep β} {m : α → DM β} {E : XK} {ps : List Vp} {Q : β → Prop} {X : HE → Prop} (hx : RseW fr E ef X) (x : α) (h : m x Q X) (k : ∀ y, Q y → K (iz r y) Θ) (e : ps = args x := by rfl) : MkPr fr Γ Θ (preW ef args r m) (fun _ => E) ps K := mkW x h k (fun z hz => hx z hz Γ Θ) e
end
section
variable {P : Program} {w : World} {K : PySem.W.Frag} {mg : Str → Option Value} {base : Heap} {CX : CXT} {C : Addr} {ps : List Str} {k : Nat} {sp sp' : Sp}
theorem DefI.imp (D : DefI P w K mg base CX k C ps sp) (h : ∀ vs H Q E, sp' vs H Q E → sp vs H Q E) : DefI P w K mg base CX k C ps sp' := by
  obtain ⟨f, fd, hlk, h1, h2, h3⟩ := D.ex
  exact ⟨f, fd, hlk, h1, h2, h3.imp h⟩
end
abbrev yPR : Rep (List (Str × Int)) := yL (z2 yS zI)
abbrev ySR : Rep (List SRow) := yL (z3 yS (yL yS) (yL yS))
def RowsB (prs : List (Str × Int)) (srs : List SRow) : Prop := (∀ r ∈ prs, r.1.length ≤ 1000) ∧ ∀ r ∈ srs, r.1.length ≤ 1000 ∧ r.2.1.length ≤ 1000 ∧ r.2.2.length ≤ 1000 ∧ (∀ y ∈ r.2.1, y.length ≤ 1000) ∧ ∀ y ∈ r.2.2, y.length ≤ 1000
def heOf : PErr → HE
  | .tooMany k l => .tooMany k l
  | .badWord w => .badWord w
  | .double n => .double n
  | .badNumber n => .badNumber n
  | .empty n => .empty n
  | .unknown n => .unknown n
def mk_Plan (prs : List (Str × Int)) (srs : List SRow) : DM PlanD := fun Q X => RowsB prs srs ∧ (planDue prs srs = none → Q (planOf prs srs)) ∧ ∀ y, planDue prs srs = some y → X (heOf y)
def ecs (cs : EK → Addr) : ECs := ⟨cs .tooMany, cs .badWord, cs .double, cs .badNumber, cs .empty, cs .unknown⟩
theorem le_PR {prs : List (Str × Int)} : (iz yPR prs).Le (iz (zL (z2 zS zI)) prs) := le_LLr fun F v x _ ⟨a, u, w, h1, h2, h3, h4⟩ => ⟨a, u, w, h1, h2, h3.1, h4⟩
theorem le_SR {srs : List SRow} : (iz ySR srs).Le (iz (zL (z3 zS (zL zS) (zL zS))) srs) := le_LLr fun F v x _ ⟨a, u, w, z, h1, h2, h3, h4, h5⟩ => ⟨a, u, w, z, h1, h2, h3.1, le_LLr (r := yS) (s := zS) (fun F v x _ h => h.1) F w h4, le_LLr (r := yS) (s := zS) (fun F v x _ h => h.1) F z h5⟩
/-- the strings of an error that is due stand in the rows -/
def strE : PErr → Option Str
  | .tooMany _ _ => none
  | .badWord w => some w
  | .double n => some n
  | .badNumber _ => none
  | .empty n => some n
  | .unknown n => some n
theorem chk_str {ks seen ws : List Str} {x : Bool × Str} (h : chk ks seen ws = some x) : x.2 ∈ ws := chk_mem (n := x.2) (b := x.1) (by rw [h])
theorem placesDue_str {e : PErr} {z : Str} : ∀ {seen : List Str} {prs : List (Str × Int)}, placesDue seen prs = some e → strE e = some z → ∃ r ∈ prs, r.1 = z
  | _, [], h, _ => by cases h
  | seen, (w, n) :: r, h, hz => by
    rw [placesDue_cons] at h
    split at h
    · split at h
      · cases h; cases hz; exact ⟨_, List.mem_cons_self .., rfl⟩
      · split at h
        · obtain ⟨q, hq, e⟩ := placesDue_str h hz
          exact ⟨q, List.mem_cons_of_mem _ hq, e⟩
        · cases h; cases hz
    · cases h; cases hz; exact ⟨_, List.mem_cons_self .., rfl⟩
theorem nameErr_str {x : Bool × Str} : strE (nameErr x) = some x.2 := by
  obtain ⟨b, n⟩ := x
  cases b <;> rfl
theorem stepDue_str {ps seen : List Str} {s : SRow} {e : PErr} {z : Str} (h : stepDue ps seen s = some e) (hz : strE e = some z) : z = s.1 ∨ z ∈ s.2.1 ∨ z ∈ s.2.2 := by
  unfold stepDue at h
  split at h
  · split at h
    · cases h; cases hz; exact .inl rfl
    · split at h
      · cases h; cases hz; exact .inl rfl
      · split at h
        · rename_i x hx
          cases h
          rw [nameErr_str] at hz
          cases hz
          exact .inr (.inl (chk_str hx))
        · obtain ⟨x, hx, e2⟩ := Option.map_eq_some_iff.mp h
          subst e2
          rw [nameErr_str] at hz
          cases hz
          exact .inr (.inr (chk_str hx))
  · cases h; cases hz; exact .inl rfl
theorem stepsDue_str {ps : List Str} {e : PErr} {z : Str} : ∀ {seen : List Str} {srs : List SRow}, stepsDue ps seen srs = some e → strE e = some z → ∃ s ∈ srs, z = s.1 ∨ z ∈ s.2.1 ∨ z ∈ s.2.2
  | _, [], h, _ => by cases h
  | seen, s :: r, h, hz => by
    rw [stepsDue_cons] at h
    split at h
    · rename_i e2 he
      cases h
      exact ⟨s, List.mem_cons_self .., stepDue_str he hz⟩
    · obtain ⟨q, hq, h2⟩ := stepsDue_str h hz
      exact ⟨q, List.mem_cons_of_mem _ hq, h2⟩
theorem due_str {prs : List (Str × Int)} {srs : List SRow} {e : PErr} {z : Str} (hb : RowsB prs srs) (h : planDue prs srs = some e) (hz : strE e = some z) : z.length ≤ 1000 := by
  unfold planDue at h
  split at h
  · cases h; cases hz
  · split at h
    · cases h; cases hz
    · split at h
      · rename_i e2 he
        cases h
        obtain ⟨r, hr, e3⟩ := placesDue_str he hz
        rw [← e3]
        exact hb.1 r hr
      · obtain ⟨s, hs, h2⟩ := stepsDue_str h hz
        obtain ⟨b1, b2, b3, b4, b5⟩ := hb.2 s hs
        rcases h2 with h2 | h2 | h2
        · rw [h2]; exact b1
        · exact b4 z h2
        · exact b5 z h2
end L2
set_option Elab.async false
set_option linter.all false
set_option maxRecDepth 100000
set_option maxHeartbeats 4000000
namespace L2
open PySem PySem.Spec PyProof.Rows PySem.HErr
section
variable {X : Cx} {K : PySem.W.Frag} {pos : Pos}
theorem kpg_tup {es : List Expr} {k : Nat} {t : TGs} {n : Nat} (hc : X.calm = true) (h : PGs X es t) (hn : (assignEach es X.env).length = n := by rfl) (hst : (assignEach es X.env).findIdx? (·.1) = none := by rfl) (hK : X.K = K := by rfl) : PG X (.Tuple es k pos) (gTup K n t) := hK ▸ pg_tup hc h hn hst
end
section
variable {fr fr' : Fr} {Γ Γ' : Gam} {Θ Θ' : List Cel} {F F' H H' : Hp} {K : Vp → List Cel → Prop} {Qv : VK}
theorem joinL_len (S : List Nat) : ∀ parts : List (List Nat), (TL.joinL S parts).length ≤ (parts.map List.length).sum + parts.length * S.length
  | [] => by simp [TL.joinL]
  | [p] => by
    show p.length ≤ _
    simp
  | p :: q :: r => by
    have := joinL_len S (q :: r)
    show (p ++ (S ++ TL.joinL S (q :: r))).length ≤ _
    rw [List.length_append, List.length_append, List.map_cons, List.sum_cons, List.length_cons, Nat.succ_mul]
    omega
theorem joinL_mem (S : List Nat) (c : Nat) : ∀ parts : List (List Nat), c ∈ TL.joinL S parts → c ∈ S ∨ ∃ p ∈ parts, c ∈ p
  | [], h => by cases h
  | [p], h => .inr ⟨p, List.mem_cons_self .., h⟩
  | p :: q :: r, h => by
    rcases List.mem_append.mp h with h | h
    · exact .inr ⟨p, List.mem_cons_self .., h⟩
    · rcases List.mem_append.mp h with h | h
      · exact .inl h
      · rcases joinL_mem S c (q :: r) h with h | ⟨p, hp, h⟩
        · exact .inl h
        · exact .inr ⟨p, List.mem_cons_of_mem _ hp, h⟩
theorem join_cps (y : Str) (parts : List Str) : (Txt.join y parts).cps.toList = TL.joinL y.cps.toList (parts.map fun p => p.cps.toList) := by
  have := TL.tl_join y parts
  rw [← TL.join_eq] at this
  exact this
theorem join_len (y : Str) (parts : List Str) : (Txt.join y parts).length ≤ (parts.map (·.length)).sum + parts.length * y.length := by
  show (Txt.join y parts).cps.toList.length ≤ _
  rw [join_cps]
  have := joinL_len y.cps.toList (parts.map fun p => p.cps.toList)
  rw [List.length_map, List.map_map] at this
  exact this
theorem join_asc {y : Str} {parts : List Str} (hy : Asc y) (hp : ∀ p ∈ parts, Asc p) : Asc (Txt.join y parts) := fun c hc => by
  rw [join_cps] at hc
  rcases joinL_mem _ _ _ hc with h | ⟨p, h1, h2⟩
  · exact hy c h
  · obtain ⟨q, hq, rfl⟩ := List.mem_map.mp h1
    exact hp q hq c h2
theorem tyl_yS {x : Str} {Kf : PySem.W.Frag} : ∀ F H v, OkF fr Θ F H → (iz yS x).p F v → tyV Kf "str" v H := fun F H v ok h => tyl_S F H v ok h.1
theorem my_join {Kf : PySem.W.Frag} {xs : List Str} {x : Str} (hs : (xs.map (·.length)).sum + xs.length * x.length ≤ big) (k : K (iz yS (Txt.join x xs)) Θ) : Mts fr Θ (fun x xs H Q => ∃ a p, ∃ ys : List Str, x = .str a ∧ xs = [.ref p] ∧ (SqL Kf H p (ys.map V.str) ∨ SqT Kf H p (ys.map V.str)) ∧
    (ys.map (·.length)).sum + ys.length * a.length ≤ 16777216 ∧ Q (.str (Txt.join a ys)) H) (iz yS x) [iz (yL yS) xs] K := fun F H v vs ok hv hps Q q => by
  cases hps with
  | cons h1 hp => cases hp with
    | nil =>
      obtain ⟨⟨a, us, rfl, h2, h3⟩, _⟩ := h1
      have h4 : PVs zS F us xs := Paired.imp2 (fun _ _ h => h.1) h3
      obtain ⟨rfl, hA⟩ := pvs_S h4
      obtain ⟨⟨rfl, hx⟩, _⟩ := hv
      exact ⟨x, a, xs, rfl, rfl, .inl (SqL.of (ok.fh _ _ h2)), Nat.le_trans hs (by decide), q.go k ok ⟨⟨rfl, join_asc hx hA⟩, Nat.le_trans (join_len x xs) hs⟩⟩
end
end L2
set_option Elab.async false
set_option linter.all false
set_option maxRecDepth 100000
set_option maxHeartbeats 4000000
namespace L2
open PySem PySem.Spec PyProof.Rows PySem.HErr
section
variable {α β S : Type}
theorem forD_inv {body : α → S → (S → Prop) → (S → Prop) → Prop} {after : S → Prop} {xs : List α} {s : S} (I : List α → S → Prop) (h0 : I [] s)
    (hs : ∀ pre x post s nx, xs = pre ++ x :: post → I pre s → (∀ s', I (pre ++ [x]) s' → nx s') → body x s nx after) (hd : ∀ s, I xs s → after s) : forD xs s body after := by
  have key : ∀ (post pre : List α) (s : S), xs = pre ++ post → I pre s → forD post s body after := by
    intro post
    induction post with
    | nil =>
      intro pre s e h
      rw [List.append_nil] at e
      subst e
      exact hd s h
    | cons x post ih =>
      intro pre s e h
      exact hs pre x post s _ e h fun s' h' => ih (pre ++ [x]) s' (by rw [e]; simp) h'
  exact key xs [] s rfl h0
/-- a loop that lets all pass -/
theorem forD_all {body : α → S → (S → Prop) → (S → Prop) → Prop} {after : S → Prop} {s : S} : ∀ {xs : List α}, (∀ x ∈ xs, ∀ nx, nx s → body x s nx after) → after s → forD xs s body after
  | [], _, h => h
  | x :: xs, hb, h => hb x (List.mem_cons_self ..) _ (forD_all (fun y hy => hb y (List.mem_cons_of_mem _ hy)) h)
theorem mapD_ok {f : α → (β → Prop) → Prop} {k : List β → Prop} (g : α → β) : ∀ {xs : List α} {acc : List β}, (∀ x ∈ xs, ∀ k, k (g x) → f x k) → k (acc ++ xs.map g) → mapD xs acc f k
  | [], acc, _, h => by simpa [mapD] using h
  | x :: xs, acc, hf, h => hf x (List.mem_cons_self ..) _ (mapD_ok g (fun y hy => hf y (List.mem_cons_of_mem _ hy)) (by simpa using h))
theorem mapD_inv {f : α → (β → Prop) → Prop} {k : List β → Prop} (R : α → β → Prop) : ∀ {xs : List α} {acc : List β}, (∀ x ∈ xs, ∀ k, (∀ y, R x y → k y) → f x k) → (∀ ys, Paired R xs ys → k (acc ++ ys)) → mapD xs acc f k
  | [], acc, _, h => by simpa [mapD] using h [] .nil
  | x :: xs, acc, hf, h => hf x (List.mem_cons_self ..) _ fun y hy => mapD_inv R (fun z hz => hf z (List.mem_cons_of_mem _ hz)) fun ys hys => by
    have := h (y :: ys) (.cons hy hys)
    simpa using this
/-- a loop that lays by -/
theorem forD_push {T : Type} {body : α → List T → (List T → Prop) → (List T → Prop) → Prop} {after : List T → Prop} (f : α → T) {N : Nat} : ∀ {xs : List α} {s : List T}, (∀ x ∈ xs, ∀ s nx, s.length < N → nx (s ++ [f x]) → body x s nx after) → s.length + xs.length ≤ N → after (s ++ xs.map f) → forD xs s body after
  | [], s, _, _, h => by simpa [forD] using h
  | x :: xs, s, hb, hN, h => hb x (List.mem_cons_self ..) s _ (by rw [List.length_cons] at hN; omega) (forD_push f (fun y hy => hb y (List.mem_cons_of_mem _ hy)) (by rw [List.length_append]; rw [List.length_cons] at hN; show _ + 1 + _ ≤ _; omega) (by simpa using h))
theorem mapD_map {γ : Type} {g : γ → α} {f : α → (β → Prop) → Prop} {k : List β → Prop} : ∀ {xs : List γ} {acc : List β}, mapD (xs.map g) acc f k = mapD xs acc (fun x => f (g x)) k
  | [], _ => rfl
  | x :: xs, acc => by
    show (f (g x) fun y => mapD (xs.map g) (acc ++ [y]) f k) = f (g x) fun y => mapD xs (acc ++ [y]) _ k
    congr 1
    funext y
    exact mapD_map
theorem ifD_t {c : Bool} {A B : Prop} (e : c = true) (h : A) : ifD c A B := ⟨fun _ => h, fun f => by rw [e] at f; cases f⟩
theorem ifD_f {c : Bool} {A B : Prop} (e : c = false) (h : B) : ifD c A B := ⟨(fun f => by rw [e] at f; cases f), fun _ => h⟩
theorem andD_ok {b c : Bool} {f : (Bool → Prop) → Prop} {k : Bool → Prop} (hf : b = true → ∀ k, k c → f k) (h : k (b && c)) : andD b f k := by
  cases b with
  | true => exact ⟨fun _ => hf rfl _ h, (fun e => nomatch e)⟩
  | false => exact ⟨(fun e => nomatch e), fun _ => h⟩
theorem orD_ok {b c : Bool} {f : (Bool → Prop) → Prop} {k : Bool → Prop} (hf : b = false → ∀ k, k c → f k) (h : k (b || c)) : orD b f k := by
  cases b with
  | true => exact ⟨fun _ => h, (fun e => nomatch e)⟩
  | false => exact ⟨(fun e => nomatch e), fun _ => hf rfl _ h⟩
end
theorem atI_0 {α : Type} {x : α} {xs : List α} : atI (x :: xs) 0 = some x := atI_nat (j := 0) rfl
end L2
set_option Elab.async false
set_option linter.all false
set_option maxRecDepth 100000
set_option maxHeartbeats 4000000
namespace L2
open PySem PySem.Spec PyProof.Rows PySem.HErr
/-- the box at b: the script's copy at l, then ints -/
def cBg (b l : Addr) (ns is : List Int) : Cel := ⟨b, true, fun F o => o = .lst (.ref l :: is.map V.int) ∧ F l = some (.lst (ns.map V.int)) ∧ ns.length ≤ big, fun e ⟨h1, h2, h3⟩ => ⟨h1, e _ _ h2, h3⟩, fun h e => by subst e; simp at h⟩
def cBag (t : Nat) (b l : Addr) : Cel := ⟨b, true, fun F o => ∃ (ns is : List Int), is.length = t ∧ (∀ i, is[0]? = some i → 0 ≤ i) ∧ (cBg b l ns is).φ F o, fun e ⟨ns, is, h1, h2, h3⟩ => ⟨ns, is, h1, h2, (cBg b l ns is).mono e h3⟩, fun ⟨ns, is, _, _, h⟩ e => (cBg b l ns is).nt h e⟩
abbrev BKind := Addr → Addr → Cel
def preK (mk : BKind) (q : PreB) : PreC := fun ps Θ out err => ∃ b l qs o, ps = zAt b :: qs ∧ Θ = [mk b l] ∧ q qs o ∧ out = (fun p Θ' => o p ∧ Θ' = [mk b l]) ∧ err = fun _ _ => False
def RetKW {β : Type} (mk : BKind) (fr : Fr) (b l : Addr) (Qv : VK) (r : Rep β) (Q : β → Prop) : Prop := ∀ y, Q y → ∀ Θ, mk b l ∈ Θ → Rt fr Θ Qv (iz r y)
section
variable {mk : BKind} {fr fr' : Fr} {Γ Γ' : Gam} {Θ Θ' : List Cel} {F F' H H' : Hp} {K : Vp → List Cel → Prop} {Qv : VK}
theorem RetKW.fine {β : Type} {b l : Addr} {r : Rep β} {Q : β → Prop} (h : RetKW mk fr b l Qv r Q) (le : FrLe fr fr') : RetKW mk fr' b l Qv r Q := fun y hy Θ hc => (h y hy Θ hc).fine le
theorem sps_K {q : PreB} {E : L2.St → XK} {b l : Addr} {qs : List Vp} {o : Vp → Prop} (hc : mk b l ∈ Θ) (hq : q qs o) (k : ∀ p, o p → K p Θ) : Sps fr Γ Θ (spC (preK mk q)) E (zAt b :: qs) K := fun σ F H vs ok env hps Q kq => by
  obtain ⟨Θr, pm⟩ := perm_of_mem hc
  have ok1 := ok.perm pm
  exact ⟨F, _, [mk b l], _, _, ok1.fh, ok1.cellsAt, hps, ⟨b, l, qs, o, rfl, rfl, hq, rfl, rfl⟩, fun p Θ' ⟨ho, hΘ⟩ v F' H' ef h => by
    subst hΘ
    exact kq p Θ (k p ho) v F' H' ef.ff ((ok1.eff ef).perm pm.symm) h, fun e Θ' he => he.elim⟩
theorem sps_KW {α β : Type} {args : α → List Vp} {r : Rep β} {m : α → DM β} {E : L2.St → XK} {ps : List Vp} {Q : β → Prop} {b l : Addr} {j : Nat} (hj : Θ[j]? = some (mk b l)) (x : α) (h : m x Q noX) (k : ∀ y, Q y → K (iz r y) Θ) (e : ps = zAt b :: args x := by rfl) : Sps fr Γ Θ (spC (preK mk (preBW args r m))) E ps K := by
  subst e
  exact sps_K (List.mem_of_getElem? hj) ⟨x, Q, rfl, h, rfl⟩ fun p ⟨y, hy, e⟩ => by rw [e]; exact k y hy
theorem OkF.recell {c c' : Cel} {j : Nat} (k : OkF fr Θ F H) (hj : Θ[j]? = some c) (ha : c'.a = c.a) (ho : c'.own = c.own) (h : ∀ o, c.φ F o → c'.φ F o) : OkF fr (Θ.set j c') F H := by
  obtain ⟨_, ⟨o, h2, h3⟩, _⟩ := k.ce c (List.mem_of_getElem? hj)
  have := k.mut (c' := c') (o := o) hj ha ho (h o h3)
  have e : upd H c.a o = H := by
    funext a
    by_cases q : a = c.a
    · rw [q, upd_same, h2]
    · rw [upd_ne q]
  rw [e] at this
  exact this
theorem kn_bag {t : Nat} {b l : Addr} {j : Nat} {P : L2.St → Hp → Prop} (hj : Θ[j]? = some (cBag t b l)) (k : ∀ (ns is : List Int), is.length = t → (∀ i, is[0]? = some i → 0 ≤ i) → Kn fr Γ (Θ.set j (cBg b l ns is)) P) : Kn fr Γ Θ P := fun σ F H ok env => by
  obtain ⟨_, ⟨o, h2, ns, is, h3, h4, h5⟩, _⟩ := ok.ce _ (List.mem_of_getElem? hj)
  obtain ⟨h6, h7, h8⟩ := h5
  subst h6
  have := ok.mut (c' := cBg b l ns is) (o := .lst (.ref l :: is.map V.int)) hj rfl rfl ⟨rfl, h7, h8⟩
  have e : upd H (cBag t b l).a (.lst (.ref l :: is.map V.int)) = H := by
    funext a
    by_cases q : a = (cBag t b l).a
    · rw [q, upd_same, h2]
    · rw [upd_ne q]
  rw [e] at this
  exact k ns is h3 h4 σ F H this env
theorem rt_bag {t : Nat} {b l : Addr} {j : Nat} {ns is : List Int} {rt : VK} {p : Vp} (hj : Θ[j]? = some (cBg b l ns is)) (h1 : is.length = t) (h2 : ∀ i, is[0]? = some i → 0 ≤ i) (k : Rt fr (Θ.set j (cBag t b l)) rt p) : Rt fr Θ rt p := fun v F H ok hv => k v F H (ok.recell hj rfl rfl fun o ho => ⟨ns, is, h1, h2, ho⟩) hv
theorem ob_ix {Kf : PySem.W.Frag} {b l : Addr} {j m : Nat} {ns is : List Int} {n : Int} {x : Int} (hj : Θ[j]? = some (cBg b l ns is)) (hn : n = (m : Int) + 1) (e : is[m]? = some x) (k : K (iz zI x) Θ) : Ops fr Θ (rIxL Kf) (zAt b) (iz zI n) K := fun F H v w ok hv hw Q q => by
  obtain ⟨_, ⟨o, h2, h3, h4, h5⟩, _⟩ := ok.ce _ (List.mem_of_getElem? hj)
  subst h3
  have hv : v = .ref b := hv
  have hw : w = .int n := hw
  subst hv hw hn
  refine ⟨b, _, _, .int x, rfl, rfl, SqL.of h2, ?_, q.go k ok rfl⟩
  rw [show ((m : Int) + 1) = ((m + 1 : Nat) : Int) by omega]
  refine atI_nat ?_
  rw [List.getElem?_cons_succ, List.getElem?_map, e]
  rfl
theorem ob_ix0 {Kf : PySem.W.Frag} {b l : Addr} {j : Nat} {ns is : List Int} (hj : Θ[j]? = some (cBg b l ns is)) (k : K (iz (yL zI) ns) Θ) : Ops fr Θ (rIxL Kf) (zAt b) (iz zI 0) K := fun F H v w ok hv hw Q q => by
  obtain ⟨_, ⟨o, h2, h3, h4, h5⟩, _⟩ := ok.ce _ (List.mem_of_getElem? hj)
  subst h3
  have hv : v = .ref b := hv
  have hw : w = .int 0 := hw
  subst hv hw
  exact ⟨b, _, _, .ref l, rfl, rfl, SqL.of h2, atI_nat (j := 0) rfl, q.go k ok ⟨⟨l, _, rfl, h4, ints_pvs⟩, h5⟩⟩
theorem kb_set {b l : Addr} {i j m : Nat} {ns is : List Int} {te ti : TE} {D : Ends} (hi : Γ[i]? = some (some (zAt b)))
    (w : We fr Γ Θ te fun p Θ1 => We fr Γ Θ1 ti fun q Θ2 => ∃ x n, p = iz zI x ∧ q = iz zI n ∧ n = (m : Int) + 1 ∧ m < is.length ∧ Θ2[j]? = some (cBg b l ns is) ∧ Kn fr Γ (Θ2.set j (cBg b l ns (is.set m x))) D.nx) : Kn fr Γ Θ (tAsg te (gSub (tVar i) ti rSetL) D) := fun σ F H ok env =>
  w σ F H ok env _ fun p Θ1 k v F1 H1 s1 ok1 hp => by
    obtain ⟨v0, h1, h2⟩ := (env.mono s1).get hi
    have h2 : v0 = .ref b := h2
    subst h2
    refine ⟨_, h1, k σ F1 H1 ok1 (env.mono s1) _ fun q Θ2 ⟨x, n, e1, e2, hn, hm, hj, k2⟩ w2 F2 H2 s2 ok2 hp2 => ?_⟩
    subst e1 e2 hn
    obtain ⟨_, ⟨o, h3, h4, h5, h6⟩, _⟩ := ok2.ce _ (List.mem_of_getElem? hj)
    subst h4
    have hp : v = .int x := hp
    subst hp
    refine ⟨b, _, _, m + 1, rfl, hp2, h3, ?_, k2 σ F2 _ (ok2.mut hj rfl rfl ⟨?_, h5, h6⟩) ((env.mono s1).mono s2)⟩
    · unfold ixN
      simp only [List.length_cons, List.length_map]
      rw [if_pos (by omega), if_pos (by omega)]
      congr 1
    · show HO.lst _ = HO.lst _
      rw [List.set_cons_succ, List.map_set]
end
section
variable {mk : BKind} {P : Program} {w : World} {K : PySem.W.Frag} {mg : Str → Option Value} {base : Heap} {x m qual : Str} {C : Addr} {st : Stmt} {N ps : List Str} {k : Nat} {α β : Type} {ef : HE → Er} {args : α → List Vp} {r : Rep β} {md : α → DM β}
theorem Src.okKW (hmk : ∀ b l, (mk b l).own = true) (F : Src K mg x st ps) (S : FnScope N ps (defScope st)) (len : ∀ x, (args x).length + 1 = ps.length)
    (hbody : ∀ (f : Addr) (cdv : Value) (A : Around) (outer : List Env) (s : Shared) (H : Hp) (E : XK) (b l : Addr) (a : α) (Q : β → Prop), Room k (A.deeper (envOfC x (defScope st) s.heap.objs.size f cdv)) → md a Q noX →
      ∃ t, PSs (cxOf CX0 P w K mg base N x (defScope st) f cdv A outer s H E).nox (defBody st) t ∧ ∀ fr Qv, RetKW mk fr b l Qv r Q → Kn fr (envOf N (zAt b :: args a)) [mk b l] (t { nx := fun _ H' => Qv .non H', rt := Qv })) : Def P w K mg base CX0 (k + 1) x ps (spC (preK mk (preBW args r md))) :=
  F.okC S (fun qs Θ out err ⟨b, l, qs', o, h1, h2, ⟨a, Q, e, _⟩, _⟩ => ⟨by rw [h1, e]; exact len a, fun c hc => by rw [h2] at hc; rw [List.mem_singleton.mp hc]; exact hmk b l⟩) fun f cdv A outer s H E qs Θ out err hr ⟨b, l, qs', o, e1, e2, ⟨a, Q, e3, h, e4⟩, e5, e6⟩ => by
    subst e1 e2 e3 e4 e5 e6
    obtain ⟨t, ht, hk⟩ := hbody f cdv A outer s H E b l a Q hr h
    refine ⟨t, ht, fun fr Qv hret => hk fr Qv fun y hy Θ hc => ?_⟩
    obtain ⟨Θr, pm⟩ := perm_of_mem hc
    refine hret _ [mk b l] ⟨⟨y, hy, rfl⟩, rfl⟩ rfl Θ Θr pm
end
end L2
set_option Elab.async false
set_option linter.all false
set_option maxRecDepth 100000
set_option maxHeartbeats 4000000
namespace L2
open PySem PySem.Spec PyProof.Rows PySem.HErr
def zScr (Kf : PySem.W.Frag) : Rep (List Int) := ⟨fun F v ns => ∃ a, v = .ref a ∧ SqL Kf F a (ns.map V.int) ∧ ns.length ≤ 63, fun e ⟨a, h1, h2, h3⟩ => ⟨a, h1, e.seq h2, h3⟩⟩
def preBag (Kf : PySem.W.Frag) (t : Nat) : PreN := fun ps out err => ∃ ns, ps = [iz (zScr Kf) ns] ∧ out = (fun p Θn => ∃ b l, p = zAt b ∧ Θn = [cBag t b l]) ∧ err = noErr
section
variable {fr fr' : Fr} {Γ Γ' : Gam} {Θ Θ' : List Cel} {F F' H H' : Hp} {K : Vp → List Cel → Prop} {Qv : VK}
theorem wi_scr {Kf : PySem.W.Frag} {tl : TE} {K : List Vp → List Cel → Prop} (w : We fr Γ Θ tl fun p Θ1 => ∃ ns : List Int, p = iz (zScr Kf) ns ∧ (ns.length ≤ big → K (ns.map (iz zI)) Θ1)) : Wi fr Γ Θ (iList Kf tl) K := fun σ F H ok env R q =>
  w σ F H ok env _ fun p Θ1 ⟨ns, e, k⟩ v F1 H1 s1 ok1 hp => by
    subst e
    obtain ⟨a, rfl, h2, h3⟩ := hp
    have up : ∀ {F2 H2 : Hp}, Same F1 F2 → Same F2 H2 → SqL Kf H2 a (ns.map V.int) := fun s2 fh => (s2.trans fh).seq h2
    refine ⟨a, rfl, ⟨_, up (Same.refl _) ok1.fh⟩, q _ Θ1 (k (Nat.le_trans h3 (by decide))) _ F1 H1 s1 ok1 fun F2 H2 s2 fh => ⟨fun i p hi => ?_, ?_⟩⟩
    · obtain ⟨x, hx, rfl⟩ := get_izs hi
      have hu : (ns.map V.int)[i]? = some (.int x) := by rw [List.getElem?_map, hx]; rfl
      refine ⟨⟨_, _, up s2 fh, hu⟩, fun y H3 ⟨e, hy⟩ => ?_⟩
      subst e
      have hy := hy _ (up s2 fh)
      rw [hu] at hy
      cases hy
      exact ⟨F2, Same.refl _, Same.refl _, fh, Newer.refl _ _, rfl⟩
    · rw [List.length_map]
      refine ⟨_, up s2 fh, ?_⟩
      rw [List.length_map]
      exact Nat.le_refl _
/-- the box is made -/
theorem we_bag {t : TA} {m : Nat} (w : Wa fr Γ Θ t fun ps Θ1 => ∃ (ns is : List Int), ps = iz (yL zI) ns :: is.map (iz zI) ∧ is.length = m ∧ m ≤ 10 ∧ (∀ i, is[0]? = some i → 0 ≤ i) ∧ ∀ b l, K (zAt b) (cBag m b l :: Θ1)) : We fr Γ Θ (tLst t) K := fun σ F H ok env Q q =>
  w σ F H ok env _ fun ps Θ1 ⟨ns, is, e, h1, h0, h2, k⟩ vs F1 H1 s1 ok1 hps => by
    subst e
    cases hps with
    | cons hl hi =>
      obtain ⟨⟨l, us, rfl, g2, g3⟩, g4⟩ := hl
      have e1 := pvs_I g3
      subst e1
      have e2 := pvs_I (pvs_map hi)
      subst e2
      refine ⟨?_, fun p np => q _ _ (k p l) _ F1 _ s1 (ok1.mkOwn (c := cBag m p l) np rfl ⟨ns, is, h1, h2, rfl, g2, g4⟩) rfl⟩
      rw [List.length_cons, List.length_map]
      exact Nat.le_of_lt (small1000 (by omega))
end
end L2
set_option Elab.async false
set_option linter.all false
set_option maxRecDepth 100000
set_option maxHeartbeats 4000000
namespace L2
open PySem PySem.Spec PyProof.Rows PySem.HErr
section
variable {fr fr' : Fr} {Γ Γ' : Gam} {Θ Θ' : List Cel} {F F' H H' : Hp} {K : Vp → List Cel → Prop} {Qv : VK}
class QDat {α : Type} (r : Rep α) [DecidableEq α] where
  enc : α → PyData
  dep : Nat
  dp : ∀ {Kf : PySem.W.Frag} {F : Hp} {v : V} {x : α}, r.p F v x → Dp Kf F v (enc x)
  cl : ∀ {F : Hp} {v : V} {x : α}, r.p F v x → (enc x).canLay0 = true
  dl : ∀ x : α, (enc x).depth ≤ dep
  eq : ∀ x y : α, PyData.eqv (enc x) (enc y) = decide (x = y)
instance : QDat zI := ⟨PyData.int, 0, fun h => Dat.dp (r := zI) h, fun _ => by simp only [PyData.canLay0], fun x => Dat.dl (r := zI) x, fun x y => by simp only [PyData.eqv]; exact Bool.eq_iff_iff.mpr (by simp)⟩
instance : QDat zB := ⟨PyData.bool, 0, fun h => by cases (show _ = V.bl _ from h); exact .bl _, fun _ => by simp only [PyData.canLay0], fun x => by simp [PyData.depth], fun x y => by cases x <;> cases y <;> simp [PyData.eqv]⟩
instance : QDat yS := ⟨PyData.str, 0, fun h => Dat.dp (r := zS) h.1, fun h => by simp only [PyData.canLay0]; exact h.1.2.ok, fun x => Dat.dl (r := zS) x, fun x y => by simp only [PyData.eqv]; exact Bool.eq_iff_iff.mpr (by simp)⟩
theorem q_all {α : Type} [DecidableEq α] {r : Rep α} [d : QDat r] {Kf : PySem.W.Frag} {vs : List V} {xs : List α} (h : PVs r F vs xs) : DpAll Kf F vs (xs.map d.enc) ∧ PyData.canLayAll0 (xs.map d.enc) = true := by
  induction h with
  | nil => exact ⟨.nil, by simp only [List.map_nil, PyData.canLayAll0]⟩
  | cons a _ ih => exact ⟨.cons (d.dp a) ih.1, by simp only [List.map_cons, PyData.canLayAll0, d.cl a, ih.2, Bool.and_self]⟩
theorem q_dep {α : Type} [DecidableEq α] {r : Rep α} [d : QDat r] (xs : List α) : PyData.depthAll (xs.map d.enc) ≤ d.dep := depthAll_le fun y hy => by
  obtain ⟨x, _, rfl⟩ := List.mem_map.mp hy
  exact d.dl x
theorem q_eqs {α : Type} [DecidableEq α] {r : Rep α} [d : QDat r] : ∀ xs ys : List α, PyData.eqvAll (xs.map d.enc) (ys.map d.enc) = decide (xs = ys)
  | [], [] => by simp [PyData.eqvAll]
  | [], _ :: _ => by simp [PyData.eqvAll]
  | _ :: _, [] => by simp [PyData.eqvAll]
  | x :: xs, y :: ys => by simp [PyData.eqvAll, d.eq, q_eqs xs ys]
instance {α : Type} [DecidableEq α] {r : Rep α} [d : QDat r] : QDat (yL r) := ⟨fun xs => .list (xs.map d.enc), d.dep + 1, fun ⟨⟨a, vs, h1, h2, h3⟩, _⟩ => by subst h1; exact .lst (SqL.of h2) (q_all h3).1, fun ⟨⟨a, vs, h1, h2, h3⟩, _⟩ => by simp only [PyData.canLay0]; exact (q_all (Kf := []) h3).2, fun xs => by
  have := q_dep (r := r) xs
  simp only [PyData.depth]
  omega, fun x y => by simp only [PyData.eqv]; exact q_eqs x y⟩
instance {α : Type} [TNar α] [DecidableEq α] {r : Rep α} [d : QDat r] : QDat (yT r) := ⟨fun xs => .tuple (xs.map d.enc), d.dep + 1, fun ⟨⟨a, vs, h1, h2, h3⟩, _⟩ => by subst h1; exact .tup (h2.sq (Same.refl _)) (q_all h3).1, fun ⟨⟨a, vs, h1, h2, h3⟩, _⟩ => by simp only [PyData.canLay0]; exact (q_all (Kf := []) h3).2, fun xs => by
  have := q_dep (r := r) xs
  simp only [PyData.depth]
  omega, fun x y => by simp only [PyData.eqv]; exact q_eqs x y⟩
instance {α β : Type} [DecidableEq α] [DecidableEq β] {r : Rep α} {s : Rep β} [d : QDat r] [e : QDat s] : QDat (z2 r s) := ⟨fun x => .tuple [d.enc x.1, e.enc x.2], max d.dep e.dep + 1, fun ⟨a, u, w, h1, h2, h3, h4⟩ => by subst h1; exact .tup (SqT.of h2) (.cons (d.dp h3) (.cons (e.dp h4) .nil)),
  fun ⟨a, u, w, h1, h2, h3, h4⟩ => by simp only [PyData.canLay0, PyData.canLayAll0, d.cl h3, e.cl h4, Bool.and_self], fun x => by
    have h1 := d.dl x.1
    have h2 := e.dl x.2
    simp only [PyData.depth, PyData.depthAll]
    omega, fun x y => by
    simp only [PyData.eqv, PyData.eqvAll, d.eq, e.eq, Bool.and_true]
    exact Bool.eq_iff_iff.mpr (by simp [Prod.ext_iff])⟩
instance {α β γ : Type} [DecidableEq α] [DecidableEq β] [DecidableEq γ] {r : Rep α} {s : Rep β} {t : Rep γ} [d : QDat r] [e : QDat s] [f : QDat t] : QDat (z3 r s t) := ⟨fun x => .tuple [d.enc x.1, e.enc x.2.1, f.enc x.2.2], max d.dep (max e.dep f.dep) + 1, fun ⟨a, u, w, z, h1, h2, h3, h4, h5⟩ => by subst h1; exact .tup (SqT.of h2) (.cons (d.dp h3) (.cons (e.dp h4) (.cons (f.dp h5) .nil))),
  fun ⟨a, u, w, z, h1, h2, h3, h4, h5⟩ => by simp only [PyData.canLay0, PyData.canLayAll0, d.cl h3, e.cl h4, f.cl h5, Bool.and_self], fun x => by
    have h1 := d.dl x.1
    have h2 := e.dl x.2.1
    have h3 := f.dl x.2.2
    simp only [PyData.depth, PyData.depthAll]
    omega, fun x y => by
    simp only [PyData.eqv, PyData.eqvAll, d.eq, e.eq, f.eq, Bool.and_true]
    exact Bool.eq_iff_iff.mpr (by simp [Prod.ext_iff])⟩
instance {α β γ δ : Type} [DecidableEq α] [DecidableEq β] [DecidableEq γ] [DecidableEq δ] {r : Rep α} {s : Rep β} {t : Rep γ} {u : Rep δ} [d : QDat r] [e : QDat s] [f : QDat t] [g : QDat u] : QDat (z4 r s t u) := ⟨fun x => .tuple [d.enc x.1, e.enc x.2.1, f.enc x.2.2.1, g.enc x.2.2.2], max (max d.dep e.dep) (max f.dep g.dep) + 1, fun ⟨a, v1, v2, v3, v4, h1, h2, h3, h4, h5, h6⟩ => by subst h1; exact .tup (SqT.of h2) (.cons (d.dp h3) (.cons (e.dp h4) (.cons (f.dp h5) (.cons (g.dp h6) .nil)))),
  fun ⟨a, v1, v2, v3, v4, h1, h2, h3, h4, h5, h6⟩ => by simp only [PyData.canLay0, PyData.canLayAll0, d.cl h3, e.cl h4, f.cl h5, g.cl h6, Bool.and_self], fun x => by
    have h1 := d.dl x.1
    have h2 := e.dl x.2.1
    have h3 := f.dl x.2.2.1
    have h4 := g.dl x.2.2.2
    simp only [PyData.depth, PyData.depthAll]
    omega, fun x y => by
    simp only [PyData.eqv, PyData.eqvAll, d.eq, e.eq, f.eq, g.eq, Bool.and_true]
    exact Bool.eq_iff_iff.mpr (by simp [Prod.ext_iff])⟩
instance {α β γ δ ε : Type} [DecidableEq α] [DecidableEq β] [DecidableEq γ] [DecidableEq δ] [DecidableEq ε] {r : Rep α} {s : Rep β} {t : Rep γ} {u : Rep δ} {w : Rep ε} [d : QDat r] [e : QDat s] [f : QDat t] [g : QDat u] [i : QDat w] : QDat (z5 r s t u w) := ⟨fun x => .tuple [d.enc x.1, e.enc x.2.1, f.enc x.2.2.1, g.enc x.2.2.2.1, i.enc x.2.2.2.2], max (max d.dep e.dep) (max f.dep (max g.dep i.dep)) + 1, fun ⟨a, v1, v2, v3, v4, v5, h1, h2, h3, h4, h5, h6, h7⟩ => by subst h1; exact .tup (SqT.of h2) (.cons (d.dp h3) (.cons (e.dp h4) (.cons (f.dp h5) (.cons (g.dp h6) (.cons (i.dp h7) .nil))))),
  fun ⟨a, v1, v2, v3, v4, v5, h1, h2, h3, h4, h5, h6, h7⟩ => by simp only [PyData.canLay0, PyData.canLayAll0, d.cl h3, e.cl h4, f.cl h5, g.cl h6, i.cl h7, Bool.and_self], fun x => by
    have h1 := d.dl x.1
    have h2 := e.dl x.2.1
    have h3 := f.dl x.2.2.1
    have h4 := g.dl x.2.2.2.1
    have h5 := i.dl x.2.2.2.2
    simp only [PyData.depth, PyData.depthAll]
    omega, fun x y => by
    simp only [PyData.eqv, PyData.eqvAll, d.eq, e.eq, f.eq, g.eq, i.eq, Bool.and_true]
    exact Bool.eq_iff_iff.mpr (by simp [Prod.ext_iff])⟩
instance {α : Type} [DecidableEq α] {r : Rep α} [d : QDat r] : QDat (z1 r) := ⟨fun x => .tuple [d.enc x], d.dep + 1, fun ⟨a, v1, h1, h2, h3⟩ => by subst h1; exact .tup (SqT.of h2) (.cons (d.dp h3) .nil),
  fun ⟨a, v1, h1, h2, h3⟩ => by simp only [PyData.canLay0, PyData.canLayAll0, d.cl h3, Bool.and_self], fun x => by
    have h1 := d.dl x
    simp only [PyData.depth, PyData.depthAll]
    omega, fun x y => by simp only [PyData.eqv, PyData.eqvAll, d.eq, Bool.and_true]⟩
instance {α β : Type} [DecidableEq α] [DecidableEq β] {r : Rep α} {s : Rep β} [d : QDat r] [e : QDat s] : QDat (zLp r s) := ⟨fun x => .list [d.enc x.1, e.enc x.2], max d.dep e.dep + 1, fun ⟨a, u, w, h1, h2, h3, h4⟩ => by subst h1; exact .lst (SqL.of h2) (.cons (d.dp h3) (.cons (e.dp h4) .nil)),
  fun ⟨a, u, w, h1, h2, h3, h4⟩ => by simp only [PyData.canLay0, PyData.canLayAll0, d.cl h3, e.cl h4, Bool.and_self], fun x => by
    have h1 := d.dl x.1
    have h2 := e.dl x.2
    simp only [PyData.depth, PyData.depthAll]
    omega, fun x y => by
    simp only [PyData.eqv, PyData.eqvAll, d.eq, e.eq, Bool.and_true]
    exact Bool.eq_iff_iff.mpr (by simp [Prod.ext_iff])⟩
instance {α β γ : Type} [DecidableEq α] [DecidableEq β] [DecidableEq γ] {r : Rep α} {s : Rep β} {t : Rep γ} [d : QDat r] [e : QDat s] [f : QDat t] : QDat (zL3 r s t) := ⟨fun x => .list [d.enc x.1, e.enc x.2.1, f.enc x.2.2], max d.dep (max e.dep f.dep) + 1, fun ⟨a, u, w, z, h1, h2, h3, h4, h5⟩ => by subst h1; exact .lst (SqL.of h2) (.cons (d.dp h3) (.cons (e.dp h4) (.cons (f.dp h5) .nil))),
  fun ⟨a, u, w, z, h1, h2, h3, h4, h5⟩ => by simp only [PyData.canLay0, PyData.canLayAll0, d.cl h3, e.cl h4, f.cl h5, Bool.and_self], fun x => by
    have h1 := d.dl x.1
    have h2 := e.dl x.2.1
    have h3 := f.dl x.2.2
    simp only [PyData.depth, PyData.depthAll]
    omega, fun x y => by
    simp only [PyData.eqv, PyData.eqvAll, d.eq, e.eq, f.eq, Bool.and_true]
    exact Bool.eq_iff_iff.mpr (by simp [Prod.ext_iff])⟩
theorem q_shape {α : Type} [DecidableEq α] {r : Rep α} [d : QDat r] {v : V} {x : α} (hd : d.dep ≤ 64) (h : r.p F v x) : SeqAt.shaped (d.enc x) = true := by
  unfold SeqAt.shaped
  rw [d.cl h, decide_eq_true (Nat.le_trans (d.dl x) hd)]
  rfl
theorem oq_eq {Kf : PySem.W.Frag} {α : Type} [DecidableEq α] {r : Rep α} [d : QDat r] {x y : α} (hd : d.dep ≤ 64) (k : K (iz zB (decide (x = y))) Θ) : Ops fr Θ (rEqD Kf) (iz r x) (iz r y) K := fun F H v w ok hv hw Q q =>
  ⟨d.enc x, d.enc y, (d.dp hv).up ok.fh, (d.dp hw).up ok.fh, q_shape hd hv, q_shape hd hw, by rw [d.eq]; exact q.go k ok rfl⟩
theorem oq_ne {Kf : PySem.W.Frag} {α : Type} [DecidableEq α] {r : Rep α} [d : QDat r] {x y : α} (hd : d.dep ≤ 64) (k : K (iz zB (!decide (x = y))) Θ) : Ops fr Θ (rNeD Kf) (iz r x) (iz r y) K := fun F H v w ok hv hw Q q =>
  ⟨d.enc x, d.enc y, (d.dp hv).up ok.fh, (d.dp hw).up ok.fh, q_shape hd hv, q_shape hd hw, by rw [d.eq]; exact q.go k ok rfl⟩
def yU {α β : Type} (r : Rep α) (s : Rep β) : Rep (α ⊕ β) := ⟨fun F v x => match x with | .inl a => r.p F v a | .inr b => s.p F v b, fun {F F' v x} e h => by
  cases x with
  | inl a => exact r.mono e h
  | inr b => exact s.mono e h⟩
/-- unlike kinds are never equal -/
class QApart {α β : Type} [DecidableEq α] [DecidableEq β] (r : Rep α) (s : Rep β) [d : QDat r] [e : QDat s] : Prop where
  ne : ∀ x y, PyData.eqv (d.enc x) (e.enc y) = false
  ne' : ∀ x y, PyData.eqv (e.enc y) (d.enc x) = false
instance {α β γ : Type} [DecidableEq α] [DecidableEq β] [DecidableEq γ] {r : Rep α} {s : Rep β} {t : Rep γ} [d : QDat r] [e : QDat s] [f : QDat t] : QApart yS (zL3 r s t) := ⟨fun x y => by simp [QDat.enc, PyData.eqv], fun x y => by simp [QDat.enc, PyData.eqv]⟩
instance {α β : Type} [DecidableEq α] [DecidableEq β] {r : Rep α} {s : Rep β} [d : QDat r] [e : QDat s] : QApart yS (zLp r s) := ⟨fun x y => by simp [QDat.enc, PyData.eqv], fun x y => by simp [QDat.enc, PyData.eqv]⟩
instance {α : Type} [DecidableEq α] {r : Rep α} [d : QDat r] : QApart yS (yL r) := ⟨fun x y => by simp [QDat.enc, PyData.eqv], fun x y => by simp [QDat.enc, PyData.eqv]⟩
instance {α : Type} [TNar α] [DecidableEq α] {r : Rep α} [d : QDat r] : QApart yS (yT r) := ⟨fun x y => by simp [QDat.enc, PyData.eqv], fun x y => by simp [QDat.enc, PyData.eqv]⟩
def numS (n : Int) : Str := Str.ofString (toString n)
theorem num_ascN (n : Nat) : Asc (numS (n : Int)) := fun c hc => by
  have e : (numS (n : Int)).cps.toList = TL.numL n := TL.tl_num n
  rw [e] at hc
  have := TL.numL_digits n c hc
  omega
theorem num_neg (n : Nat) : (numS (Int.negSucc n)).cps.toList = 45 :: TL.numL (n + 1) := by
  unfold numS
  rw [PyProof.Rows.signs_ofString]
  show ((("-" : String) ++ Nat.repr (n + 1)).toList).map Char.toNat = _
  rw [String.toList_append, List.map_append, Nat.toList_repr]
  rfl
theorem num_asc (n : Int) : Asc (numS n) := by
  cases n with
  | ofNat n => exact num_ascN n
  | negSucc n =>
    intro c hc
    rw [num_neg] at hc
    rcases List.mem_cons.mp hc with rfl | hc
    · decide
    · have := TL.numL_digits (n + 1) c hc
      omega
def CStr (n : Int) : Prop := n.natAbs < 10 ^ 200
theorem CStr.log {n : Int} (h : CStr n) : n.natAbs.log2 < 1920 := by
  unfold CStr at h
  by_cases e : n.natAbs = 0
  · rw [e]; decide
  · rw [Nat.log2_lt e]
    exact Nat.lt_trans h (by decide)
theorem num_len {n : Int} (h : CStr n) : (numS n).length ≤ 1921 := by
  have e := PySem.int_text_length_le (k := 1920) (by decide) h.log
  show (Str.ofString (toString n)).length ≤ _
  rw [PySem.ofString_length]
  exact e
theorem le_num {n : Int} (h : CStr n) : ∀ F, (iz yS (numS n)).p F (.str (Str.ofString (toString n))) := fun F => ⟨⟨rfl, num_asc n⟩, Nat.le_trans (num_len h) (by decide)⟩
theorem cy_str {n : Int} (h : CStr n) (k : K (iz yS (numS n)) Θ) : Cbs fr Θ (fun xs H Q => ∃ i : Int, xs = [.int i] ∧ i.natAbs.log2 < 1920 ∧ Q (.str (toString i)) H) [iz zI n] K := fun F H vs ok hps Q q => by
  cases hps with
  | cons h1 hp => cases hp with
    | nil =>
      have h1 : _ = V.int n := h1
      subst h1
      exact ⟨n, rfl, h.log, q.go k ok (le_num h F)⟩
theorem ksl_tupA {X : Cx} {K : PySem.W.Frag} (h : X.K = K := by rfl) : SlR X (rSlA K) := by
  subst h
  exact sl_tupA
def Wj (fr : Fr) (Γ : Gam) (Θ : List Cel) (ts : List TE) (acc : Str) (K : Str → List Cel → Prop) : Prop := Asc acc → ∀ σ F H, OkF fr Θ F H → EnvF Γ σ F → ∀ Q : Str → Hp → Prop, (∀ z Θ', K z Θ' → Asc z → ∀ F' H', Same F F' → OkF fr Θ' F' H' → Q z H') → tJs ts acc σ H Q
theorem we_fs {ts : List TE} (w : Wj fr Γ Θ ts Str.empty fun z Θ1 => z.length ≤ big ∧ K (iz yS z) Θ1) : We fr Γ Θ (fun σ H Q => tJs ts Str.empty σ H fun out H1 => Q (.str out) H1) K := fun σ F H ok env Q q =>
  w (fun c hc => by cases hc) σ F H ok env _ fun z Θ' ⟨hl, k⟩ ha F' H' s' ok' => q _ Θ' k _ F' H' s' ok' ⟨⟨rfl, ha⟩, hl⟩
theorem wj_nil {acc : Str} {K : Str → List Cel → Prop} (k : K acc Θ) : Wj fr Γ Θ [] acc K := fun ha σ F H ok env Q q => q acc Θ k ha F H (Same.refl F) ok
theorem wj_cons {t : TE} {ts : List TE} {acc : Str} {K : Str → List Cel → Prop} (w : We fr Γ Θ t fun p Θ1 => ∃ z, p = iz yS z ∧ acc.length + z.length ≤ big ∧ Wj fr Γ Θ1 ts (acc ++ z) K) : Wj fr Γ Θ (t :: ts) acc K := fun ha σ F H ok env Q q =>
  w σ F H ok env _ fun p Θ1 ⟨z, e, hl, k⟩ v F1 H1 s1 ok1 hp => by
    subst e
    obtain ⟨⟨e1, hz⟩, _⟩ := hp
    exact ⟨z, e1, by rw [show (acc ++ z).length = acc.length + z.length from by show (acc.cps ++ z.cps).size = _; rw [Array.size_append]; rfl]; exact big_line hl, k (ha.app hz) σ F1 H1 ok1 (env.mono s1) Q fun z' Θ' kk hz' F' H' s' ok' => q z' Θ' kk hz' F' H' (s1.trans s') ok'⟩
theorem we_fmtS {t : TE} (w : We fr Γ Θ t fun p Θ1 => ∃ z, p = iz yS z ∧ K (iz yS z) Θ1) : We fr Γ Θ (tFmt t) K := fun σ F H ok env Q q =>
  w σ F H ok env _ fun p Θ1 ⟨z, e, k⟩ v F1 H1 s1 ok1 hp => by
    subst e
    exact .inl ⟨z, hp.1.1, big_line hp.2, q _ Θ1 k _ F1 H1 s1 ok1 ⟨⟨rfl, hp.1.2⟩, hp.2⟩⟩
theorem we_fmtI {t : TE} (w : We fr Γ Θ t fun p Θ1 => ∃ n, p = iz zI n ∧ CStr n ∧ K (iz yS (numS n)) Θ1) : We fr Γ Θ (tFmt t) K := fun σ F H ok env Q q =>
  w σ F H ok env _ fun p Θ1 ⟨n, e, hn, k⟩ v F1 H1 s1 ok1 hp => by
    subst e
    exact .inr ⟨n, hp, hn.log, q _ Θ1 k _ F1 H1 s1 ok1 (le_num hn F1)⟩
end
end L2
set_option Elab.async false
set_option linter.all false
set_option maxRecDepth 100000
set_option maxHeartbeats 4000000
namespace L2
open PySem PySem.Spec PyProof.Rows PySem.HErr
def JOkC (fr : Fr) (Θ : List Cel) (J : It) (F : Hp) (its : List Vp) : Prop := ∀ c F1 H1, Same F F1 → OkF fr (c :: Θ) F1 H1 → (∀ i p, its[i]? = some p → J.go i H1 ∧ ∀ x H2, J.yld i H1 x H2 → ∃ F2, Same F1 F2 ∧ Same H1 H2 ∧ Same F2 H2 ∧ Newer F1 H1 F2 ∧ p.p F2 x) ∧ J.stop its.length H1
def WiC (fr : Fr) (Γ : Gam) (Θ : List Cel) (wi : TI) (K : List Vp → List Cel → Prop) : Prop := ∀ σ F H, OkF fr Θ F H → EnvF Γ σ F → ∀ R : It → Hp → Prop, (∀ its Θ', K its Θ' → ∀ J F' H', Same F F' → OkF fr Θ' F' H' → JOkC fr Θ' J F' its → R J H') → wi σ H R
section
variable {fr fr' : Fr} {Γ Γ' : Gam} {Θ Θ' : List Cel} {F F' H H' : Hp} {K : Vp → List Cel → Prop} {Qv : VK}
theorem wi_yC {Kf : PySem.W.Frag} {α : Type} {r : Rep α} {xs : List α} {a : Addr} {i j : Nat} {K : List Vp → List Cel → Prop} (hi : Γ[i]? = some (some (zAt a))) (hj : Θ[j]? = some (cY a r xs)) (k : xs.length ≤ big → K (xs.map (iz r)) Θ) : WiC fr Γ Θ (iList Kf (tVar i)) K := fun σ F H ok env R q => by
  obtain ⟨v, h1, h2⟩ := env.get hi
  have h2 : v = .ref a := h2
  subst h2
  have at_ : ∀ {c F1 H1}, OkF fr (c :: Θ) F1 H1 → ∃ vs, H1 a = some (.lst vs) ∧ PVs r F1 vs xs := fun {c F1 H1} ok1 => by
    obtain ⟨_, ⟨o, g2, ⟨⟨vs, rfl, g4⟩, g5⟩⟩, _⟩ := ok1.ce _ (List.mem_cons_of_mem _ (List.mem_of_getElem? hj))
    exact ⟨vs, g2, g4⟩
  obtain ⟨_, ⟨o, g2, ⟨⟨vs, rfl, g4⟩, g5⟩⟩, _⟩ := ok.ce _ (List.mem_of_getElem? hj)
  refine ⟨_, h1, a, rfl, ⟨vs, SqL.of g2⟩, q _ Θ (k g5) _ F H (Same.refl F) ok fun c F2 H2 s2 ok2 => ?_⟩
  obtain ⟨us, e1, e2⟩ := at_ ok2
  have sq : SqL Kf H2 a us := SqL.of e1
  refine ⟨fun i p hi => ?_, ?_⟩
  · obtain ⟨x, hx, rfl⟩ := get_izs hi
    obtain ⟨u, hu, hux⟩ := Paired.get' e2 hx
    refine ⟨⟨us, u, sq, hu⟩, fun y H3 ⟨e, hy⟩ => ?_⟩
    subst e
    have hy := hy us sq
    rw [hu] at hy
    cases hy
    exact ⟨F2, Same.refl _, Same.refl _, ok2.fh, Newer.refl _ _, hux⟩
  · rw [List.length_map, ← Paired.len e2]
    exact ⟨us, sq, Nat.le_refl _⟩
theorem we_lcWC {α β : Type} {r : Rep α} {s : Rep β} {wi : TI} {g : TG} {tt : TT} {te : TE} {vs : List Nat}
    (w : WiC fr Γ Θ wi fun its Θ1 => ∃ (xs : List α) (f : α → (Option β → Prop) → Prop) (k : List β → Prop) (Γ2 : α → Gam), its = xs.map (iz r) ∧ Θ1 = Θ ∧ xs.length ≤ big ∧ (∀ x, TgR g vs (iz r x) (wipeG Γ vs) (Γ2 x)) ∧ compD xs [] f k ∧
      (∀ x c kx, f x kx → Wt fr (Γ2 x) (c :: Θ) tt fun b Θ1 => (b = true → We fr (Γ2 x) Θ1 te fun q Θ' => Θ' = c :: Θ ∧ ∃ y, q = iz s y ∧ kx (some y)) ∧ (b = false → Θ1 = c :: Θ ∧ kx none)) ∧
      (∀ ys, k ys → ys.length ≤ big → K (iz (yL s) ys) Θ)) : We fr Γ Θ (tLc wi g tt te vs) K := fun σ F H ok env Q q => by
  refine w σ F H ok env _ fun its Θ1 ⟨xs, f, k, Γ2, e1, e2, hl, tg, hc, hs, hk⟩ J F1 H1 s1 ok1 jok => ?_
  subst e1 e2
  intro D nD
  refine ⟨fun i m H' => m = xs.length - i ∧ i ≤ xs.length ∧ ∃ F2 ys, Same F1 F2 ∧ OkF fr (cL D s ys :: Θ1) F2 H' ∧ ys.length ≤ i ∧ compD (xs.drop i) ys f k, ⟨xs.length, by simp, Nat.zero_le _, F1, [], Same.refl _, ok1.mkOwn (c := cL D s []) nD rfl ⟨[], rfl, .nil⟩, Nat.le_refl _, hc⟩, ?_⟩
  rintro i m H' ⟨rfl, hi, F2, ys, s2, ok2, yl, py⟩
  obtain ⟨j1, j2⟩ := jok _ F2 H' s2 ok2
  by_cases hlt : i < xs.length
  · have hx : xs[i]? = some xs[i] := List.getElem?_eq_getElem hlt
    generalize xs[i] = x at hx
    obtain ⟨jg, jy⟩ := j1 i (iz r x) (by rw [List.getElem?_map, hx]; rfl)
    refine .inr ⟨jg, fun H3 => ∃ F3 ys, Same F1 F3 ∧ OkF fr (cL D s ys :: Θ1) F3 H3 ∧ ys.length ≤ i + 1 ∧ compD (xs.drop (i + 1)) ys f k, fun H3 p => ⟨xs.length - (i + 1), by omega, rfl, hlt, p⟩, fun v H3 y => ?_⟩
    obtain ⟨F3, e1, e2, e3, e4, e5⟩ := jy v H3 y
    have ok3 := ok2.grow e2 e1 e3 e4
    have s3 := s2.trans e1
    have hd : xs.drop i = x :: xs.drop (i + 1) := by
      obtain ⟨hl, e⟩ := List.getElem?_eq_some_iff.mp hx
      rw [List.drop_eq_getElem_cons hl, e]
    rw [hd] at py
    refine tg x (L2.wipe σ vs) F3 H3 v ok3.fh ((env.mono (s1.trans s3)).wipe vs) e5 _ fun σ2 env2 hw => ⟨?_, ?_⟩
    · rw [hw, wipe_idem]
    · refine hs x _ _ py σ2 F3 H3 ok3 env2 _ fun b Θ2 ⟨k1, k2⟩ F4 H4 s4 ok4 => ?_
      cases b with
      | true =>
        rw [if_pos rfl]
        refine k1 rfl σ2 F4 H4 ok4 (env2.mono s4) _ fun p Θ3 ⟨e8, y, e9, hy⟩ u F5 H5 s5 ok5 hp => ?_
        subst e8 e9
        obtain ⟨_, ⟨o, h2, acc, rfl, h4⟩, _⟩ := ok5.ce _ (List.mem_cons_self ..)
        have ok6 := ok5.mut (i := 0) (c := cL D s ys) (c' := cL D s (ys ++ [y])) (o := .lst (acc ++ [u])) rfl rfl rfl ⟨_, rfl, PySem.Paired.snoc h4 hp⟩
        refine ⟨acc, h2, ?_, F5, ys ++ [y], (s3.trans s4).trans s5, ok6, by rw [List.length_append]; show _ + 1 ≤ _; omega, hy⟩
        rw [Paired.len h4]
        exact big_lt (by omega)
      | false =>
        rw [if_neg Bool.false_ne_true]
        obtain ⟨e8, hn⟩ := k2 rfl
        subst e8
        have hn : compD (xs.drop (i + 1)) (ys ++ []) f k := hn
        rw [List.append_nil] at hn
        exact ⟨F4, ys, s3.trans s4, ok4, by omega, hn⟩
  · have e : i = xs.length := by omega
    subst e
    rw [List.drop_length] at py
    obtain ⟨_, ⟨o, h2, acc, rfl, h4⟩, _⟩ := ok2.ce _ (List.mem_cons_self ..)
    have ok3 := ok2.frz (i := 0) (c := cL D s ys) rfl rfl h2
    have sD : Same F2 (upd F2 D (.lst acc)) := same_upd (ok2.ce _ (List.mem_cons_self ..)).1
    have yb : ys.length ≤ big := by omega
    refine .inl ⟨by rw [List.length_map] at j2; exact j2, q _ _ (hk ys py yb) _ _ H' ((s1.trans s2).trans sD) ok3 ⟨⟨D, acc, rfl, upd_same, Paired.imp2 (fun _ _ h => s.mono sD h) h4⟩, yb⟩⟩
/-- without a test -/
theorem we_lcMC {α β : Type} {r : Rep α} {s : Rep β} {wi : TI} {g : TG} {te : TE} {vs : List Nat}
    (w : WiC fr Γ Θ wi fun its Θ1 => ∃ (xs : List α) (f : α → (β → Prop) → Prop) (k : List β → Prop) (Γ2 : α → Gam), its = xs.map (iz r) ∧ Θ1 = Θ ∧ xs.length ≤ big ∧ (∀ x, TgR g vs (iz r x) (wipeG Γ vs) (Γ2 x)) ∧ mapD xs [] f k ∧
      (∀ x c kx, f x kx → We fr (Γ2 x) (c :: Θ) te fun q Θ' => Θ' = c :: Θ ∧ ∃ y, q = iz s y ∧ kx y) ∧
      (∀ ys, k ys → ys.length ≤ big → K (iz (yL s) ys) Θ)) : We fr Γ Θ (tLc wi g tYes te vs) K :=
  we_lcWC (r := r) (s := s) fun σ F H ok env R q => w σ F H ok env R fun its Θ1 ⟨xs, f, k, Γ2, e1, e2, hl, tg, hm, he, hk⟩ => q its Θ1 ⟨xs, fun x k => f x fun y => k (some y), k, Γ2, e1, e2, hl, tg, by rw [← mapD_comp]; exact hm,
    fun x c kx h => wt_yes ⟨fun _ => (he x c _ h), (fun h => nomatch h)⟩, hk⟩
theorem we_lcM0C {α β : Type} {r : Rep α} {s : Rep β} {wi : TI} {g : TG} {te : TE} {vs : List Nat}
    (w : WiC fr Γ Θ wi fun its Θ1 => ∃ (xs : List α) (f : α → β) (Γ2 : α → Gam), its = xs.map (iz r) ∧ Θ1 = Θ ∧ xs.length ≤ big ∧ (∀ x, TgR g vs (iz r x) (wipeG Γ vs) (Γ2 x)) ∧
      (∀ x c, Ev fr (Γ2 x) (c :: Θ) te (iz s (f x))) ∧ K (iz (yL s) (xs.map f)) Θ) : We fr Γ Θ (tLc wi g tYes te vs) K :=
  we_lcMC (r := r) (s := s) fun σ F H ok env R q => w σ F H ok env R fun its Θ1 ⟨xs, f, Γ2, e1, e2, hl, tg, he, k⟩ => q its Θ1 ⟨xs, fun x k => k (f x), (· = xs.map f), Γ2, e1, e2, hl, tg, by rw [mapD_pure]; rfl,
    fun x c kx h => (he x c).imp fun p Θ' ⟨e3, e4⟩ => ⟨e4, _, e3, h⟩, fun ys e _ => by rw [e]; exact k⟩
def tryD (hd : HE → Prop) (f : (HE → Prop) → Prop) : Prop := f hd
theorem tryD.go {hd : HE → Prop} {f : (HE → Prop) → Prop} (h : tryD hd f) : f hd := h
theorem joinD.go {S : Type} {f : (S → Prop) → Prop} {k : S → Prop} (h : joinD f k) : f k := h
theorem we_cA {D : Addr} (k : K (zAt D) Θ) : We fr Γ Θ (tC (.ref D)) K := we_c (p := zAt D) (fun _ => rfl) k
/-- a if c else b, each of which needs more -/
theorem we_ifX {α : Type} {r : Rep α} {c : TT} {ta tb : TE} {f : (α → Prop) → Prop} {k : α → Prop} (h : joinD f k) (w : f k → Wt fr Γ Θ c fun b Θ1 => Θ1 = Θ ∧ (b = true → We fr Γ Θ ta fun p Θ2 => Θ2 = Θ ∧ ∃ x, p = iz r x ∧ k x) ∧ (b = false → We fr Γ Θ tb fun p Θ2 => Θ2 = Θ ∧ ∃ x, p = iz r x ∧ k x)) (kk : ∀ x, k x → K (iz r x) Θ) : We fr Γ Θ (tIf c ta tb) K := we_ifD (w h) kk
instance {α β : Type} [DecidableEq α] [DecidableEq β] {r : Rep α} {s : Rep β} [d : QDat r] [e : QDat s] [ap : QApart r s] : QDat (yU r s) := ⟨fun x => match x with | .inl a => d.enc a | .inr b => e.enc b, max d.dep e.dep, fun {Kf F v x} h => by
  cases x with
  | inl a => exact d.dp h
  | inr b => exact e.dp h, fun {F v x} h => by
  cases x with
  | inl a => exact d.cl h
  | inr b => exact e.cl h, fun x => by
  cases x with
  | inl a => exact Nat.le_trans (d.dl a) (Nat.le_max_left _ _)
  | inr b => exact Nat.le_trans (e.dl b) (Nat.le_max_right _ _), fun x y => by
  cases x with
  | inl a => cases y with
    | inl b => exact (d.eq a b).trans (by simp)
    | inr b => exact (ap.ne a b).trans (by simp)
  | inr a => cases y with
    | inl b => exact (ap.ne' b a).trans (by simp)
    | inr b => exact (e.eq a b).trans (by simp)⟩
instance {α β γ : Type} [DecidableEq α] [DecidableEq β] [DecidableEq γ] {r : Rep α} {s : Rep β} {t : Rep γ} [d : QDat r] [e : QDat s] [f : QDat t] [a1 : QApart s t] [a2 : QApart r s] [a3 : QApart r t] : QApart r (yU s t) := ⟨fun x y => by
  cases y with
  | inl a => exact a2.ne x a
  | inr a => exact a3.ne x a, fun x y => by
  cases y with
  | inl a => exact a2.ne' x a
  | inr a => exact a3.ne' x a⟩
theorem Kr.le {W : WX} {e : Er} (h : Kr fr Γ' Θ W e) (g : GLe Γ Γ') : Kr fr Γ Θ W e := fun σ F H ok env d us hd hf => h σ F H ok (env.le g) d us hd hf
end
end L2
set_option Elab.async false
set_option linter.all false
set_option maxRecDepth 100000
set_option maxHeartbeats 4000000
namespace L2
open PySem PySem.Spec PyProof.Rows PySem.HErr
theorem pss_false {X : Cx} {ss : List Stmt} : PSs X ss (fun D σ H => False) := ⟨fun pins s σ H D I h => h.elim⟩
theorem un200 {k : Nat} {A : Around} (r : Room k A) : A.units + 200 < cLine := by
  have := r.un
  omega
theorem glo_plan {K : PySem.W.Frag} {mg : Str → Option Value} {C : Addr} (T : PlanC K mg C) : Glo mg "Plan" (.ref C) := ⟨_, T.gC, rfl⟩
inductive DHits (K : PySem.W.Frag) (H : Hp) (ls : List (Key × V)) : List (Key × V) → Bool → Prop
  | nil : DHits K H ls [] true
  | miss {k : Key} {v : V} {r : List (Key × V)} : valV ls k = none → DHits K H ls ((k, v) :: r) false
  | hit {k : Key} {v y : V} {d e : PyData} {r : List (Key × V)} {b : Bool} : valV ls k = some y → Dp K H v d → Dp K H y e → SeqAt.shaped d = true → SeqAt.shaped e = true → DHits K H ls r b → DHits K H ls ((k, v) :: r) (PyData.eqv d e && b)
def rEqDD (K : PySem.W.Frag) : R2 := fun x y H Q => ∃ a b ks ls r, x = .ref a ∧ y = .ref b ∧ H a = some (.dK ks) ∧ H b = some (.dK ls) ∧ DHits K H ls ks r ∧ Q (.bl (ks.length == ls.length && r)) H
theorem dhits_keq {X : Cx} {pins : List (Addr × Obj)} {σ : L2.St} {H : Hp} {s : Shared} (I : Inv X pins σ H s) {A : Around} (hu : A.units + 64 < cLine) {ls : List (Key × V)} {vb : List (Key × Value)} (rb : KV ls vb) {ks : List (Key × V)} {r : Bool} (h : DHits X.K H ls ks r) :
    ∀ {va : List (Key × Value)}, KV ks va → PySem.W.KeqHits A s vb va r := by
  induction h with
  | nil =>
    intro va ra
    cases ra
    exact .nil
  | @miss k v r e =>
    intro va ra
    cases ra with
    | @cons _ q _ qs h t =>
      obtain ⟨k', v'⟩ := q
      obtain ⟨h1, h2⟩ := h
      have h1 : k = k' := h1
      subst h1
      have rr : RelO (valV ls k) (valueAt vb k) := rb.val k
      rw [e] at rr
      refine .miss ?_
      cases hq : valueAt vb k with
      | none => rfl
      | some z => rw [hq] at rr; cases rr
  | @hit k v y d e r b ev dv dy sd se _ ih =>
    intro va ra
    cases ra with
    | @cons _ q _ qs h t =>
      obtain ⟨k', v'⟩ := q
      obtain ⟨h1, h2⟩ := h
      have h1 : k = k' := h1
      subst h1
      have rr : RelO (some y) (valueAt vb k) := by rw [← ev]; exact rb.val k
      obtain ⟨y', hy, ry⟩ := rr.some_of
      obtain ⟨as, r1⟩ := Dp.reads I d v v' dv h2
      obtain ⟨bs, r2⟩ := Dp.reads I e y y' dy ry
      exact .hit hy (SeqAt.eqAt_reads d e A s v' y' as bs r1 r2 (SeqAt.canLay_of_shaped sd) (SeqAt.canLay_of_shaped se) (SeqAt.room_of_shaped sd hu)) (ih t)
theorem op_eqDD {X : Cx} {K : PySem.W.Frag} (hu : X.A.units + 200 < cLine) (hK : X.K = K := by rfl) : OpR X (compareOp .Eq) (rEqDD K) := by
  subst hK
  intro pins s σ H x y v u Q I rx ry h
  obtain ⟨a, b, ks, ls, r, rfl, rfl, ea, eb, hh, q⟩ := h
  obtain rfl : v = Value.ref a := rx
  obtain rfl : u = Value.ref b := ry
  obtain ⟨_, ya, va, ra, da⟩ := (show ObjOk X.prog X.w H s.heap a (.dK ks) from I.hok a _ ea)
  obtain ⟨_, yb, vb, rb, db⟩ := (show ObjOk X.prog X.w H s.heap b (.dK ls) from I.hok b _ eb)
  have l1 : ks.length = va.length := ra.length
  have l2 : ls.length = vb.length := rb.length
  refine PySem.W.keq_eq (knd := mixKind X.prog X.w) (r := r) ya yb da db (by omega) (fun _ => dhits_keq I (by show X.A.units + 1 + 64 < cLine; omega) rb hh ra) ?_
  rw [← l1, ← l2]
  exact ⟨.bl _, H, I, rfl, q⟩
section
variable {fr fr' : Fr} {Γ Γ' : Gam} {Θ Θ' : List Cel} {F F' H H' : Hp} {K : Vp → List Cel → Prop} {Qv : VK}
def dEq {α : Type} [DecidableEq α] (xs ys : List (Str × α)) : Bool := decide (xs.length = ys.length) && xs.all fun p => decide (getR ys p.1 = some p.2)
theorem kvs_val {α : Type} {r : Rep α} {kvs : List (Key × V)} {rows : List (Str × α)} (h : KVs r F kvs rows) (n : Str) : (getR rows n = none → valV kvs (Sum.inr n) = none) ∧ ∀ x, getR rows n = some x → ∃ v, valV kvs (Sum.inr n) = some v ∧ r.p F v x := by
  induction h with
  | nil => exact ⟨fun _ => rfl, (fun x e => nomatch e)⟩
  | @cons kv x ks xs h t ih =>
    obtain ⟨h1, h2⟩ := h
    by_cases e : x.1 = n
    · have e1 : kv.1 = Sum.inr n := by rw [h1, e]
      have e2 : getR (x :: xs) n = some x.2 := by unfold getR; rw [List.find?_cons, decide_eq_true e]; rfl
      rw [e2, valV_pos e1]
      exact ⟨(fun q => nomatch q), fun y hy => ⟨_, rfl, by cases hy; exact h2⟩⟩
    · have e1 : ¬ kv.1 = Sum.inr n := fun q => by rw [h1] at q; exact e (Sum.inr.inj q)
      have e2 : getR (x :: xs) n = getR xs n := by unfold getR; rw [List.find?_cons, decide_eq_false e]
      rw [e2, valV_neg e1]
      exact ih
theorem kvs_hits {Kf : PySem.W.Frag} {α : Type} [DecidableEq α] {r : Rep α} [d : QDat r] (hd : d.dep ≤ 64) {ls : List (Key × V)} {ys : List (Str × α)} (fh : Same F H) (hl : KVs r F ls ys) {ks : List (Key × V)} {xs : List (Str × α)} (hk : KVs r F ks xs) : DHits Kf H ls ks (xs.all fun p => decide (getR ys p.1 = some p.2)) := by
  induction hk with
  | nil => exact .nil
  | @cons kv x ks xs h t ih =>
    obtain ⟨k, v⟩ := kv
    obtain ⟨h1, h2⟩ := h
    have h1 : k = Sum.inr x.1 := h1
    subst h1
    obtain ⟨g1, g2⟩ := kvs_val hl x.1
    rw [List.all_cons]
    cases e : getR ys x.1 with
    | none =>
      rw [decide_eq_false (by simp), Bool.false_and]
      exact .miss (g1 e)
    | some y =>
      obtain ⟨u, hu, hr⟩ := g2 y e
      have eb : decide (some y = some x.2) = PyData.eqv (d.enc x.2) (d.enc y) := by
        rw [d.eq]
        by_cases q : x.2 = y
        · rw [q]; simp
        · rw [decide_eq_false q, decide_eq_false (fun z => q (Option.some.inj z).symm)]
      rw [eb]
      exact .hit hu ((d.dp h2).up fh) ((d.dp hr).up fh) (q_shape hd h2) (q_shape hd hr) ih
theorem oy_eqDD {Kf : PySem.W.Frag} {α : Type} [DecidableEq α] {r : Rep α} [d : QDat r] {xs ys : List (Str × α)} (hd : d.dep ≤ 64) (k : K (iz zB (dEq xs ys)) Θ) : Ops fr Θ (rEqDD Kf) (iz (yD r) xs) (iz (yD r) ys) K := fun F H v w ok ⟨⟨a, ks, h1, h2, h3⟩, h4⟩ ⟨⟨b, ls, g1, g2, g3⟩, g4⟩ Q q => by
  refine ⟨a, b, ks, ls, _, h1, g1, ok.fh _ _ h2, ok.fh _ _ g2, kvs_hits hd ok.fh g3 h3, ?_⟩
  have e : (ks.length == ls.length && xs.all fun p => decide (getR ys p.1 = some p.2)) = dEq xs ys := by
    unfold dEq
    rw [Paired.len h3, Paired.len g3]
    congr 1
  rw [e]
  exact q.go k ok rfl
structure IsO (K : PySem.W.Frag) (C : Addr) : Prop where
  cl : Cls K C
  ha : PySem.W.findIn K (.ref C) "__class__" = some (some (.builtin "object.__class__"))
  hn : PySem.W.specialIn K (.builtin "object.__class__") "__get__" = some (some (.builtin "getset_descriptor.__get__"))
  htk : PySem.W.takesIn K (.builtin "object.__class__") = some true
  hm : PySem.W.mroIn K C (.type "object") = some true
theorem cb_isO {Kf : PySem.W.Frag} {C D : Addr} {p : Vp} {b : Bool} (T : IsO Kf C) (ic : InsC fr Θ p C) (hk : PySem.W.kitOne Kf (.ref C) (.ref D) = some b) (k : K (iz zB b) Θ) : Cbs fr Θ (rIsi Kf) [p, zAt D] K := fun F H vs ok hps Q q => by
  cases hps with
  | cons h1 hp => cases hp with
    | cons h2 hp => cases hp with
      | nil =>
        have h2 : _ = V.ref D := h2
        subst h2
        obtain ⟨a, dx, fs, rfl, h3⟩ := ic F H _ ok h1
        exact ⟨.ref a, .ref D, .ref C, .ref D, b, rfl, .own D, .base (.ins h3 T.cl T.ha T.hn T.htk T.hm), hk, q.go k ok rfl⟩
theorem we_lcWN {α β : Type} {r : Rep α} {s : Rep β} {wi : TI} {g : TG} {tt : TT} {te : TE} {vs : List Nat}
    (w : Wi fr Γ Θ wi fun its Θ1 => ∃ (xs : List α) (f : α → (Option β → Prop) → Prop) (k : List β → Prop) (Γ2 : α → Gam), its = xs.map (iz r) ∧ Θ1 = Θ ∧ xs.length ≤ big ∧ (∀ x, TgR g vs (iz r x) (wipeG Γ vs) (Γ2 x)) ∧ compD xs [] f k ∧
      (∀ x c kx, f x kx → Wt fr (Γ2 x) (c :: Θ) tt fun b Θ1 => (b = true → We fr (Γ2 x) Θ1 te fun q Θ' => Θ' = c :: Θ ∧ ∃ y, q = iz s y ∧ kx (some y)) ∧ (b = false → Θ1 = c :: Θ ∧ kx none)) ∧
      (∀ ys, k ys → ys.length ≤ big → ∀ a, K (zAt a) (cY a s ys :: Θ))) : We fr Γ Θ (tLc wi g tt te vs) K := fun σ F H ok env Q q => by
  refine w σ F H ok env _ fun its Θ1 ⟨xs, f, k, Γ2, e1, e2, hl, tg, hc, hs, hk⟩ J F1 H1 s1 ok1 jok => ?_
  subst e1 e2
  intro D nD
  refine ⟨fun i m H' => m = xs.length - i ∧ i ≤ xs.length ∧ ∃ F2 ys, Same F1 F2 ∧ OkF fr (cL D s ys :: Θ1) F2 H' ∧ ys.length ≤ i ∧ compD (xs.drop i) ys f k, ⟨xs.length, by simp, Nat.zero_le _, F1, [], Same.refl _, ok1.mkOwn (c := cL D s []) nD rfl ⟨[], rfl, .nil⟩, Nat.le_refl _, hc⟩, ?_⟩
  rintro i m H' ⟨rfl, hi, F2, ys, s2, ok2, yl, py⟩
  obtain ⟨j1, j2⟩ := jok F2 H' s2 ok2.fh
  by_cases hlt : i < xs.length
  · have hx : xs[i]? = some xs[i] := List.getElem?_eq_getElem hlt
    generalize xs[i] = x at hx
    obtain ⟨jg, jy⟩ := j1 i (iz r x) (by rw [List.getElem?_map, hx]; rfl)
    refine .inr ⟨jg, fun H3 => ∃ F3 ys, Same F1 F3 ∧ OkF fr (cL D s ys :: Θ1) F3 H3 ∧ ys.length ≤ i + 1 ∧ compD (xs.drop (i + 1)) ys f k, fun H3 p => ⟨xs.length - (i + 1), by omega, rfl, hlt, p⟩, fun v H3 y => ?_⟩
    obtain ⟨F3, e1, e2, e3, e4, e5⟩ := jy v H3 y
    have ok3 := ok2.grow e2 e1 e3 e4
    have s3 := s2.trans e1
    have hd : xs.drop i = x :: xs.drop (i + 1) := by
      obtain ⟨hl, e⟩ := List.getElem?_eq_some_iff.mp hx
      rw [List.drop_eq_getElem_cons hl, e]
    rw [hd] at py
    refine tg x (L2.wipe σ vs) F3 H3 v ok3.fh ((env.mono (s1.trans s3)).wipe vs) e5 _ fun σ2 env2 hw => ⟨?_, ?_⟩
    · rw [hw, wipe_idem]
    · refine hs x _ _ py σ2 F3 H3 ok3 env2 _ fun b Θ2 ⟨k1, k2⟩ F4 H4 s4 ok4 => ?_
      cases b with
      | true =>
        rw [if_pos rfl]
        refine k1 rfl σ2 F4 H4 ok4 (env2.mono s4) _ fun p Θ3 ⟨e8, y, e9, hy⟩ u F5 H5 s5 ok5 hp => ?_
        subst e8 e9
        obtain ⟨_, ⟨o, h2, acc, rfl, h4⟩, _⟩ := ok5.ce _ (List.mem_cons_self ..)
        have ok6 := ok5.mut (i := 0) (c := cL D s ys) (c' := cL D s (ys ++ [y])) (o := .lst (acc ++ [u])) rfl rfl rfl ⟨_, rfl, PySem.Paired.snoc h4 hp⟩
        refine ⟨acc, h2, ?_, F5, ys ++ [y], (s3.trans s4).trans s5, ok6, by rw [List.length_append]; show _ + 1 ≤ _; omega, hy⟩
        rw [Paired.len h4]
        exact big_lt (by omega)
      | false =>
        rw [if_neg Bool.false_ne_true]
        obtain ⟨e8, hn⟩ := k2 rfl
        subst e8
        have hn : compD (xs.drop (i + 1)) (ys ++ []) f k := hn
        rw [List.append_nil] at hn
        exact ⟨F4, ys, s3.trans s4, ok4, by omega, hn⟩
  · have e : i = xs.length := by omega
    subst e
    rw [List.drop_length] at py
    obtain ⟨_, ⟨o, h2, acc, rfl, h4⟩, _⟩ := ok2.ce _ (List.mem_cons_self ..)
    have yb : ys.length ≤ big := by omega
    have ok3 := ok2.recell (j := 0) (c := cL D s ys) (c' := cY D s ys) rfl rfl rfl fun o ho => ⟨ho, yb⟩
    refine .inl ⟨by rw [List.length_map] at j2; exact j2, q _ _ (hk ys py yb D) _ F2 H' (s1.trans s2) ok3 rfl⟩
/-- without a test -/
theorem we_lcMN {α β : Type} {r : Rep α} {s : Rep β} {wi : TI} {g : TG} {te : TE} {vs : List Nat}
    (w : Wi fr Γ Θ wi fun its Θ1 => ∃ (xs : List α) (f : α → (β → Prop) → Prop) (k : List β → Prop) (Γ2 : α → Gam), its = xs.map (iz r) ∧ Θ1 = Θ ∧ xs.length ≤ big ∧ (∀ x, TgR g vs (iz r x) (wipeG Γ vs) (Γ2 x)) ∧ mapD xs [] f k ∧
      (∀ x c kx, f x kx → We fr (Γ2 x) (c :: Θ) te fun q Θ' => Θ' = c :: Θ ∧ ∃ y, q = iz s y ∧ kx y) ∧
      (∀ ys, k ys → ys.length ≤ big → ∀ a, K (zAt a) (cY a s ys :: Θ))) : We fr Γ Θ (tLc wi g tYes te vs) K :=
  we_lcWN (r := r) (s := s) fun σ F H ok env R q => w σ F H ok env R fun its Θ1 ⟨xs, f, k, Γ2, e1, e2, hl, tg, hm, he, hk⟩ => q its Θ1 ⟨xs, fun x k => f x fun y => k (some y), k, Γ2, e1, e2, hl, tg, by rw [← mapD_comp]; exact hm,
    fun x c kx h => wt_yes ⟨fun _ => (he x c _ h), (fun h => nomatch h)⟩, hk⟩
theorem pvs_star {α : Type} {r : Rep α} {vs : List V} {xs : List α} (s2 : Same F F') (h : PVs r F vs xs) : Paired (fun (p : Vp) v => p.p F' v) (xs.map (iz r)) vs := by
  induction h with
  | nil => exact .nil
  | cons a _ ih => exact .cons (r.mono s2 a) ih
theorem wa_star {Kf : PySem.W.Frag} {te : TE} {t : TA} {K : List Vp → List Cel → Prop} (w : We fr Γ Θ te fun p Θ1 => ∃ (α : Type) (r : Rep α) (xs : List α), p = iz (yL r) xs ∧ Wa fr Γ Θ1 t fun ps Θ2 => K (xs.map (iz r) ++ ps) Θ2) : Wa fr Γ Θ (StX.tStar Kf te t) K := fun σ F H ok env Q q =>
  w σ F H ok env _ fun p Θ1 ⟨α, r, xs, e, k⟩ v F1 H1 s1 ok1 hp => by
    subst e
    obtain ⟨⟨a, vs, rfl, h2, h3⟩, h4⟩ := hp
    refine ⟨a, vs, rfl, .inr (SqL.of (ok1.fh _ _ h2)), k σ F1 H1 ok1 (env.mono s1) _ fun ps Θ2 kk us F2 H2 s2 ok2 hps => q _ Θ2 kk _ F2 H2 (s1.trans s2) ok2 ?_⟩
    exact Paired.app (pvs_star s2 h3) hps
theorem we_popY {Kf : PySem.W.Frag} {α : Type} {r : Rep α} {xs : List α} {a : Addr} {i j : Nat} {te : TE} (hi : Γ[i]? = some (some (zAt a))) (hj : Θ[j]? = some (cY a r xs))
    (w : We fr Γ Θ te fun p Θ1 => ∃ n m x, p = iz zI n ∧ Θ1[j]? = some (cY a r xs) ∧ ixN xs.length n = some m ∧ xs[m]? = some x ∧ K (iz r x) (Θ1.set j (cY a r (xs.eraseIdx m)))) : We fr Γ Θ (tBM Kf "list" rPopAt (tVar i) (tCons te tNil)) K := by
  refine we_bm (we_var hi ⟨fun F H v ok hv => ?_, wa_cons (w.imp fun p Θ1 ⟨n, m, x, e, hj1, hm, hx, k⟩ => wa_nil ?_)⟩)
  · obtain ⟨_, ⟨o, h2, ⟨⟨vs, rfl, h4⟩, h5⟩⟩, _⟩ := ok.ce _ (List.mem_of_getElem? hj)
    have hv : v = .ref a := hv
    subst hv
    exact .inl ⟨rfl, vs, SqL.of h2⟩
  · subst e
    intro F H v vs ok hv hps Q q
    cases hps with
    | cons h1 hp => cases hp with
      | nil =>
        have h1 : _ = V.int n := h1
        subst h1
        obtain ⟨_, ⟨o, h2, ⟨⟨us, rfl, h4⟩, h5⟩⟩, _⟩ := ok.ce _ (List.mem_of_getElem? hj1)
        obtain ⟨u, hu, hr⟩ := Paired.get' h4 hx
        have hl := Paired.len h4
        have hb : big = 100000 := rfl
        have hm' : seqIndex? n us.length = some m ∧ -(2 ^ 63) ≤ n ∧ n < 2 ^ 63 := by
          rw [hl]
          unfold ixN at hm
          by_cases q0 : 0 ≤ n
          · rw [if_pos q0] at hm
            by_cases q1 : n < xs.length
            · first
                | (rw [if_pos q1] at hm; cases hm; exact ⟨seqIndex_of q0 q1, by omega, by omega⟩)
                | (rw [if_pos (by omega)] at hm; cases hm; exact ⟨seqIndex_of q0 q1, by omega, by omega⟩)
            · first
                | (rw [if_neg q1] at hm; cases hm)
                | (rw [if_neg (by omega)] at hm; cases hm)
          · rw [if_neg q0] at hm
            by_cases q1 : 0 ≤ n + xs.length
            · first
                | (rw [if_pos q1] at hm; cases hm; exact ⟨PySem.MeetsSeq.seqIndex_neg (by omega) (by omega), by omega, by omega⟩)
                | (rw [if_pos (by omega)] at hm; cases hm; exact ⟨PySem.MeetsSeq.seqIndex_neg (by omega) (by omega), by omega, by omega⟩)
            · first
                | (rw [if_neg q1] at hm; cases hm)
                | (rw [if_neg (by omega)] at hm; cases hm)
        have er : PVs r F (us.eraseIdx m) (xs.eraseIdx m) := by
          have : ∀ {us : List V} {xs : List α}, PVs r F us xs → ∀ m, PVs r F (us.eraseIdx m) (xs.eraseIdx m) := fun {us xs} h => by
            induction h with
            | nil => intro m; exact .nil
            | cons a b ih =>
              intro m
              cases m with
              | zero => exact b
              | succ m => exact .cons a (ih m)
          exact this h4 m
        have ok2 := ok.mut (c' := cY a r (xs.eraseIdx m)) (o := .lst (us.eraseIdx m)) hj1 rfl rfl ⟨⟨_, rfl, er⟩, Nat.le_trans (List.length_eraseIdx_le _ _) h5⟩
        exact ⟨a, us, n, m, u, hv, rfl, h2, hm'.2.1, hm'.2.2, hm'.1, hu, q _ _ k _ F _ (Same.refl F) ok2 hr⟩
end
end L2
set_option Elab.async false
set_option linter.all false
set_option maxRecDepth 100000
set_option maxHeartbeats 4000000
namespace L2
open PySem PySem.Spec PyProof.Rows PySem.HErr
def cBagC (N : Nat) (b l : Addr) : Cel := ⟨b, true, fun F o => ∃ (ns : List Int) (i c r : Int), 0 ≤ i ∧ i ≤ (N : Int) ∧ (cBg b l ns [i, c, r]).φ F o, fun e ⟨ns, i, c, r, h1, h2, h3⟩ => ⟨ns, i, c, r, h1, h2, (cBg b l ns [i, c, r]).mono e h3⟩, fun ⟨ns, i, c, r, _, _, h⟩ e => (cBg b l ns [i, c, r]).nt h e⟩
def CelLe (c c' : Cel) : Prop := c'.a = c.a ∧ c'.own = c.own ∧ ∀ F o, c.φ F o → c'.φ F o
theorem CelLe.refl (c : Cel) : CelLe c c := ⟨rfl, rfl, fun _ _ h => h⟩
def CLe (Θ Θ' : List Cel) : Prop := Paired CelLe Θ Θ'
theorem CLe.refl : ∀ Θ : List Cel, CLe Θ Θ
  | [] => .nil
  | c :: Θ => .cons (.refl c) (CLe.refl Θ)
theorem CLe.map {Θ Θ' : List Cel} (h : CLe Θ Θ') : Θ'.map Cel.a = Θ.map Cel.a := by
  unfold CLe at h
  induction h with
  | nil => rfl
  | cons a _ ih => rw [List.map_cons, List.map_cons, ih, a.1]
section
variable {fr fr' : Fr} {Γ Γ' : Gam} {Θ Θ' : List Cel} {F F' H H' : Hp} {K : Vp → List Cel → Prop} {Qv : VK}
def RetKN {β : Type} (fr : Fr) (N : Nat) (b l : Addr) (Qv : VK) (r : Rep β) (Q : β → Prop) : Prop := ∀ y, Q y → ∀ Θ M, M ≤ N → cBagC M b l ∈ Θ → Rt fr Θ Qv (iz r y)
theorem RetKN.fine {β : Type} {N : Nat} {b l : Addr} {r : Rep β} {Q : β → Prop} (h : RetKN fr N b l Qv r Q) (le : FrLe fr fr') : RetKN fr' N b l Qv r Q := fun y hy Θ M hM hc => (h y hy Θ M hM hc).fine le
end
end L2
set_option Elab.async false
set_option linter.all false
set_option maxRecDepth 100000
set_option maxHeartbeats 4000000
namespace L2
open PySem PySem.Spec PyProof.Rows PySem.HErr
def keyT (k : List Int) : List Key := k.map Sum.inl
theorem keyT_inj {k l : List Int} (h : keyT k = keyT l) : k = l := by
  unfold keyT at h
  exact (List.map_inj_right (fun a b e => Sum.inl.inj e)).mp h
def KVT {α : Type} (r : Rep α) (F : Hp) (kvs : List (List Key × V)) (rows : List (List Int × α)) : Prop := Paired (fun (kv : List Key × V) (x : List Int × α) => kv.1 = keyT x.1 ∧ r.p F kv.2 x.2 ∧ x.1.length ≤ big) kvs rows
theorem KVT.mono {α : Type} {r : Rep α} {F F' : Hp} {kvs : List (List Key × V)} {rows : List (List Int × α)} (h : KVT r F kvs rows) (e : Same F F') : KVT r F' kvs rows := Paired.imp2 (fun _ _ ⟨h1, h2, h3⟩ => ⟨h1, r.mono e h2, h3⟩) h
def yDT {α : Type} (r : Rep α) : Rep (List (List Int × α)) := ⟨fun F v rows => (∃ a o kvs, v = .ref a ∧ F a = some (.frz o (.dT kvs)) ∧ KVT r F kvs rows) ∧ rows.length ≤ big, fun e ⟨⟨a, o, kvs, h1, h2, h3⟩, h4⟩ => ⟨⟨a, o, kvs, h1, e _ _ h2, h3.mono e⟩, h4⟩⟩
def getT {α : Type} (rows : List (List Int × α)) (n : List Int) : Option α := (rows.find? fun x => decide (x.1 = n)).map (·.2)
def putT {α : Type} (rows : List (List Int × α)) (n : List Int) (x : α) : List (List Int × α) := if n ∈ rows.map (·.1) then rows.map fun y => if y.1 = n then (y.1, x) else y else rows ++ [(n, x)]
section
variable {fr fr' : Fr} {Γ Γ' : Gam} {Θ Θ' : List Cel} {F F' H H' : Hp} {K : Vp → List Cel → Prop} {Qv : VK}
theorem KVT.val {α : Type} {r : Rep α} {kvs : List (List Key × V)} {rows : List (List Int × α)} (h : KVT r F kvs rows) (n : List Int) : (getT rows n = none → valV kvs (keyT n) = none) ∧ ∀ x, getT rows n = some x → ∃ v, valV kvs (keyT n) = some v ∧ r.p F v x := by
  unfold KVT at h
  induction h with
  | nil => exact ⟨fun _ => rfl, (fun x e => nomatch e)⟩
  | @cons kv x ks xs h t ih =>
    obtain ⟨h1, h2, _⟩ := h
    by_cases e : x.1 = n
    · have e1 : kv.1 = keyT n := by rw [h1, e]
      have e2 : getT (x :: xs) n = some x.2 := by unfold getT; rw [List.find?_cons, decide_eq_true e]; rfl
      rw [e2, valV_pos e1]
      exact ⟨(fun q => nomatch q), fun y hy => ⟨_, rfl, by cases hy; exact h2⟩⟩
    · have e1 : ¬ kv.1 = keyT n := fun q => by rw [h1] at q; exact e (keyT_inj q)
      have e2 : getT (x :: xs) n = getT xs n := by unfold getT; rw [List.find?_cons, decide_eq_false e]
      rw [e2, valV_neg e1]
      exact ih
theorem KVT.some {α : Type} {r : Rep α} {kvs : List (List Key × V)} {rows : List (List Int × α)} (h : KVT r F kvs rows) (n : List Int) : (valV kvs (keyT n)).isSome = (getT rows n).isSome := by
  obtain ⟨h1, h2⟩ := h.val n
  cases e : getT rows n with
  | none => rw [h1 e]; rfl
  | some x =>
    obtain ⟨v, h3, _⟩ := h2 x e
    rw [h3]; rfl
theorem KVT.put {α : Type} {r : Rep α} {kvs : List (List Key × V)} {rows : List (List Int × α)} {n : List Int} {x : α} {u : V} (h : KVT r F kvs rows) (hu : r.p F u x) (hl : n.length ≤ big) : KVT r F (putK kvs (keyT n) u) (putT rows n x) := by
  have hk : (kvs.any fun kv => decide (kv.1 = keyT n)) = decide (n ∈ rows.map (·.1)) := by
    unfold KVT at h
    induction h with
    | nil => rfl
    | cons a b ih =>
      rename_i kv y kvs rows
      rw [List.any_cons, ih, a.1, List.map_cons]
      by_cases e : y.1 = n
      · rw [decide_eq_true (by rw [e]), Bool.true_or, decide_eq_true (by rw [e]; exact List.mem_cons_self ..)]
      · rw [decide_eq_false (fun q => e (keyT_inj q)), Bool.false_or]
        by_cases e2 : n ∈ rows.map (·.1)
        · rw [decide_eq_true e2, decide_eq_true (List.mem_cons_of_mem _ e2)]
        · rw [decide_eq_false e2, decide_eq_false fun q => (List.mem_cons.mp q).elim (fun q => e q.symm) e2]
  unfold putK putT
  by_cases e : n ∈ rows.map (·.1)
  · rw [if_pos e, if_pos (by rw [hk]; exact decide_eq_true e)]
    clear hk e
    unfold KVT at h ⊢
    induction h with
    | nil => exact .nil
    | cons a b ih =>
      refine .cons ?_ ih
      rename_i kv y kvs rows
      dsimp only
      by_cases e : y.1 = n
      · rw [if_pos e, if_pos (by rw [a.1, e])]
        exact ⟨a.1, hu, a.2.2⟩
      · rw [if_neg e, if_neg (fun q => e (keyT_inj (a.1.symm.trans q)))]
        exact a
  · rw [if_neg e, if_neg (by rw [hk]; simpa using e)]
    exact PySem.Paired.snoc h ⟨rfl, hu, hl⟩
end
end L2
set_option Elab.async false
set_option linter.all false
set_option maxRecDepth 100000
set_option maxHeartbeats 4000000
namespace L2
open PySem PySem.Spec PyProof.Rows PySem.HErr
section
variable {fr fr' : Fr} {Γ Γ' : Gam} {Θ Θ' : List Cel} {F F' H H' : Hp} {K : Vp → List Cel → Prop} {Qv : VK}
theorem le_Oz {α : Type} {r : Rep α} {x : Option α} {z : α} (e : x = some z) : (iz (yO r) x).Le (iz r z) := fun F v h => by
  subst e
  exact h
end
end L2
set_option Elab.async false
set_option linter.all false
set_option maxRecDepth 100000
set_option maxHeartbeats 4000000
namespace L2
open PySem PySem.Spec PyProof.Rows PySem.HErr
section
variable {fr fr' : Fr} {Γ Γ' : Gam} {Θ Θ' : List Cel} {F F' H H' : Hp} {K : Vp → List Cel → Prop} {Qv : VK}
theorem Mts.le {r : V → List V → Hp → VK → Prop} {p p' : Vp} {ps : List Vp} (w : Mts fr Θ r p' ps K) (h : p.Le p') : Mts fr Θ r p ps K := fun F H v vs ok a b Q k => w F H v vs ok (h _ _ a) b Q k
theorem Mts.le1 {r : V → List V → Hp → VK → Prop} {p q q' : Vp} (w : Mts fr Θ r p [q'] K) (h : q.Le q') : Mts fr Θ r p [q] K := fun F H v vs ok a b Q k => w F H v vs ok a (by
  cases b with
  | cons b1 b2 => exact .cons (h _ _ b1) b2) Q k
theorem le_LS {xs : List Str} : (iz (yL yS) xs).Le (iz (zL zS) xs) := le_LLr fun _ _ _ _ h => h.1
theorem my_index {Kf : PySem.W.Frag} {xs : List Str} {x : Str} (hx : x ∈ xs) (k : K (iz zI (xs.idxOf x : Nat)) Θ) : Mts fr Θ (rIndex Kf) (iz (yL yS) xs) [iz yS x] K := ((mts_index hx k).le1 le_zS).le le_LS
theorem tyl_yL {α : Type} {r : Rep α} {xs : List α} {Kf : PySem.W.Frag} : ∀ F H v, OkF fr Θ F H → (iz (yL r) xs).p F v → tyV Kf "list" v H := fun F H v ok h => tyl_L F H v ok h.1
end
end L2
set_option Elab.async false
set_option linter.all false
set_option maxRecDepth 100000
set_option maxHeartbeats 4000000
namespace L2
open PySem PySem.Spec PyProof.Rows PySem.HErr
class XBack {α : Type} (r : Rep α) [d : XDat r] : Prop where
  bk : ∀ {F : Hp} {v : V} {x : α}, xp F (d.enc x) v → (d.enc x).depth ≤ 60 → r.p F v x
instance : XBack yX := ⟨fun h hd => ⟨h, hd⟩⟩
instance : XBack zI := ⟨fun h _ => by simp only [XDat.enc, xp] at h; exact h⟩
instance : XBack yS := ⟨fun h _ => by simp only [XDat.enc, xp] at h; exact ⟨⟨h.1, h.2.1⟩, h.2.2⟩⟩
theorem xpAll_back {α : Type} {r : Rep α} [d : XDat r] [b : XBack r] {F : Hp} : ∀ {xs : List α} {vs : List V}, xpAll F (xs.map d.enc) vs → (∀ x ∈ xs, (d.enc x).depth ≤ 60) → PVs r F vs xs
  | [], vs, h, _ => by
    simp only [List.map_nil, xpAll] at h
    subst h
    exact .nil
  | x :: xs, vs, h, hd => by
    simp only [List.map_cons, xpAll] at h
    obtain ⟨v, r', rfl, h1, h2⟩ := h
    exact .cons (b.bk h1 (hd x (List.mem_cons_self ..))) (xpAll_back h2 fun y hy => hd y (List.mem_cons_of_mem _ hy))
instance {α : Type} {r : Rep α} [d : XDat r] [b : XBack r] : XBack (yL r) := ⟨fun {F v xs} h hd => by
  have hx : (iz yX (.list (xs.map d.enc))).p F v := ⟨h, hd⟩
  simp only [XDat.enc, xp] at h
  obtain ⟨a, vs, h1, h2, h3, h4⟩ := h
  refine ⟨⟨a, vs, h1, h2, xpAll_back h4 fun x hx => ?_⟩, by rw [List.length_map] at h3; exact h3⟩
  simp only [XDat.enc, PyData.depth] at hd
  exact depth_mem (n := 60) (by omega) (List.mem_map.mpr ⟨x, hx, rfl⟩)⟩
class XNar2 {α : Type} [TNar α] (r : Rep α) [XDat r] : Prop where
  nx : ∀ xs : List α, TNar.nar (xs.map (XDat.enc (r := r))) = true ∨ TNar.nar (xs.map (XDat.enc (r := r))) = TNar.nar xs
instance : XNar2 yS := ⟨fun xs => .inr (by show (!isSDs (xs.map PyData.str)) = xs.isEmpty; rw [isSDs_strs, Bool.not_not])⟩
instance : XNar2 yX := ⟨fun xs => .inr (by rw [show (XDat.enc (r := yX)) = id from rfl, List.map_id])⟩
/-- data that is no word -/
class XNoS {α : Type} (r : Rep α) [XDat r] : Prop where
  ns : ∀ x, isSD (XDat.enc (r := r) x) = false
instance : XNoS zI := ⟨fun _ => rfl⟩
instance {α : Type} {r : Rep α} [XDat r] : XNoS (yL r) := ⟨fun _ => rfl⟩
instance {α : Type} [TNar α] {r : Rep α} [XDat r] [XNar r] : XNoS (yT r) := ⟨fun _ => rfl⟩
instance {α : Type} {r : Rep α} [XDat r] : XNoS (z1 r) := ⟨fun _ => rfl⟩
instance {α β : Type} {r : Rep α} {s : Rep β} [XDat r] [XDat s] : XNoS (z2 r s) := ⟨fun _ => rfl⟩
instance {α β γ : Type} {r : Rep α} {s : Rep β} {t : Rep γ} [XDat r] [XDat s] [XDat t] : XNoS (z3 r s t) := ⟨fun _ => rfl⟩
instance {α : Type} [TNar α] {r : Rep α} [d : XDat r] [k : XNoS r] : XNar2 r := ⟨fun xs => .inl (by
  show (!isSDs (xs.map d.enc)) = true
  cases xs with
  | nil => rfl
  | cons y ys => exact congrArg (fun b => !b) (isSDs_no (ds := (y :: ys).map d.enc) (List.mem_map.mpr ⟨y, List.mem_cons_self .., rfl⟩) (k.ns y)))⟩
theorem XNar2.tup {α : Type} [TNar α] {r : Rep α} [XDat r] [k : XNar2 r] {F : Hp} {a : Addr} {vs : List V} {xs : List α} (h : TupB (TNar.nar (xs.map (XDat.enc (r := r)))) F a vs) : TupB (TNar.nar xs) F a vs := (k.nx xs).elim (fun e => .inl (h.nar e)) fun e => by rw [← e]; exact h
instance {α : Type} [TNar α] {r : Rep α} [d : XDat r] [XNar r] [XNar2 r] [b : XBack r] : XBack (yT r) := ⟨fun {F v xs} h hd => by
  simp only [XDat.enc, xp] at h
  obtain ⟨a, vs, h1, h2, h3, h4⟩ := h
  refine ⟨⟨a, vs, h1, XNar2.tup h2, xpAll_back h4 fun x hx => ?_⟩, by rw [List.length_map] at h3; exact h3⟩
  simp only [XDat.enc, PyData.depth] at hd
  exact depth_mem (n := 60) (by omega) (List.mem_map.mpr ⟨x, hx, rfl⟩)⟩
def SqF (F : Hp) (a : Addr) (vs : List V) : Prop := F a = some (.lst vs) ∨ F a = some (.tup vs) ∨ ∃ o, F a = some (.frz o (.tup vs))
theorem SqF.mono {F F' : Hp} {a : Addr} {vs : List V} (e : Same F F') (h : SqF F a vs) : SqF F' a vs := h.elim (fun h => .inl (e _ _ h)) fun h => .inr (h.elim (fun h => .inl (e _ _ h)) fun ⟨o, h⟩ => .inr ⟨o, e _ _ h⟩)
theorem SqF.rd {F : Hp} {a : Addr} {vs : List V} (h : SqF F a vs) : Rd F a (.lst vs) ∨ Rd F a (.tup vs) := h.elim (fun h => .inl (.inl h)) fun h => .inr (h.elim .inl .inr)
def ySq {α : Type} (r : Rep α) : Rep (List α) := ⟨fun F v xs => (∃ a vs, v = .ref a ∧ SqF F a vs ∧ PVs r F vs xs) ∧ xs.length ≤ big, fun e ⟨⟨a, vs, h1, h2, h3⟩, h4⟩ => ⟨⟨a, vs, h1, h2.mono e, Paired.imp2 (fun _ _ h => r.mono e h) h3⟩, h4⟩⟩
section
variable {fr fr' : Fr} {Γ Γ' : Gam} {Θ Θ' : List Cel} {F F' H H' : Hp} {K : Vp → List Cel → Prop} {Qv : VK}
theorem SqF.up {a : Addr} {vs : List V} (fh : Same F H) (h : SqF F a vs) : Rd H a (.lst vs) ∨ Rd H a (.tup vs) := (h.mono fh).rd
end
instance {α : Type} {r : Rep α} : NotNon (yDT r) := ⟨fun F v x ⟨⟨a, o, kvs, h, _⟩, _⟩ => by rw [h]; exact fun q => by cases q⟩
instance {α : Type} {r : Rep α} : NotNon (ySq r) := ⟨fun F v x ⟨⟨a, vs, h, _⟩, _⟩ => by rw [h]; exact fun q => by cases q⟩
instance {α β γ δ ε : Type} {r : Rep α} {s : Rep β} {t : Rep γ} {u : Rep δ} {o : Rep ε} [d : XDat r] [e : XDat s] [f : XDat t] [g : XDat u] [l : XDat o] : XDat (z5 r s t u o) := ⟨fun x => .tuple [d.enc x.1, e.enc x.2.1, f.enc x.2.2.1, g.enc x.2.2.2.1, l.enc x.2.2.2.2], max d.dep (max e.dep (max f.dep (max g.dep l.dep))) + 1, fun ⟨a, v1, v2, v3, v4, v5, h1, h2, h3, h4, h5, h6, h7⟩ => by
  refine ⟨?_, ?_⟩
  · simp only [xp]
    exact ⟨a, _, h1, .inl h2, by show 5 ≤ 100000; decide, by simp only [xpAll]; exact ⟨_, _, rfl, (d.xd h3).1, _, _, rfl, (e.xd h4).1, _, _, rfl, (f.xd h5).1, _, _, rfl, (g.xd h6).1, _, _, rfl, (l.xd h7).1, rfl⟩⟩
  · have := (d.xd h3).2
    have := (e.xd h4).2
    have := (f.xd h5).2
    have := (g.xd h6).2
    have := (l.xd h7).2
    simp only [PyData.depth, PyData.depthAll]
    omega⟩
instance {α β γ δ ε : Type} {r : Rep α} {s : Rep β} {t : Rep γ} {u : Rep δ} {o : Rep ε} [XDat r] [XDat s] [XDat t] [XDat u] [XDat o] : PDat (z5 r s t u o) := ⟨fun _ => rfl⟩
instance {α β γ δ : Type} {r : Rep α} {s : Rep β} {t : Rep γ} {u : Rep δ} [d : Dat r] [e : Dat s] [f : Dat t] [g : Dat u] : Dat (z4 r s t u) := ⟨fun x => .tuple [d.enc x.1, e.enc x.2.1, f.enc x.2.2.1, g.enc x.2.2.2], d.dep + e.dep + f.dep + g.dep + 1, fun ⟨a, v1, v2, v3, v4, h1, h2, h3, h4, h5, h6⟩ => by subst h1; exact .tup (SqT.of h2) (.cons (d.dp h3) (.cons (e.dp h4) (.cons (f.dp h5) (.cons (g.dp h6) .nil)))),
  fun ⟨a, v1, v2, v3, v4, h1, h2, h3, h4, h5, h6⟩ => by show (nb _ && (nb _ && (nb _ && (nb _ && true)))) = true; rw [d.ok h3, e.ok h4, f.ok h5, g.ok h6]; rfl, fun x => by
    have h1 := d.dl x.1
    have h2 := e.dl x.2.1
    have h3 := f.dl x.2.2.1
    have h4 := g.dl x.2.2.2
    simp only [PyData.depth, PyData.depthAll]
    omega, fun {x y} h => by
    have h := PyData.tuple.inj h
    rw [List.cons.injEq, List.cons.injEq, List.cons.injEq, List.cons.injEq] at h
    exact Prod.ext (d.inj h.1) (Prod.ext (e.inj h.2.1) (Prod.ext (f.inj h.2.2.1) (g.inj h.2.2.2.1)))⟩
end L2
set_option Elab.async false
set_option linter.all false
set_option maxRecDepth 100000
set_option maxHeartbeats 4000000
namespace L2
open PySem PySem.Spec PyProof.Rows PySem.HErr
section
variable {fr fr' : Fr} {Γ Γ' : Gam} {Θ Θ' Θr : List Cel} {F F' H H' : Hp} {K : Vp → List Cel → Prop} {Qv : VK}
/-- what a def with lent cells returns -/
def RetL {β γ : Type} (fr : Fr) (Qv : VK) (r : Rep β) (cout : γ → List Cel) (Q : β × γ → Prop) : Prop := ∀ y g, Q (y, g) → ∀ Θ'' Θx, Θ''.Perm (cout g ++ Θx) → Rt fr Θ'' Qv (iz r y)
theorem RetL.fine {β γ : Type} {r : Rep β} {cout : γ → List Cel} {Q : β × γ → Prop} (h : RetL fr Qv r cout Q) (l : FrLe fr fr') : RetL fr' Qv r cout Q := fun y g hq Θ'' Θx pm => (h y g hq Θ'' Θx pm).fine l
/-- an error may leave: the cells hold something -/
def RseL {γ : Type} (fr : Fr) (E : XK) (ef : HE → Er) (cout : γ → List Cel) (X : HE → Prop) : Prop := ∀ z, X z → ∀ g Θ'' Θx, Θ''.Perm (cout g ++ Θx) → ∀ Γ, Kr fr Γ Θ'' (fun cls d _ H => E cls d H) (ef z)
theorem RseL.fine {γ : Type} {E : XK} {ef : HE → Er} {cout : γ → List Cel} {X : HE → Prop} (h : RseL fr E ef cout X) (l : FrLe fr fr') : RseL fr' E ef cout X := fun z hz g Θ'' Θx pm Γ σ F H ok env d us hd hf => h z hz g Θ'' Θx pm Γ σ F H (ok.le l) env d us hd hf
/-- a frozen instance of the class at C, its fields as g tells -/
def zIn {α : Type} (C : Addr) (g : α → List (Str × Vp)) : Rep α := ⟨fun F v x => ∃ a dx us, v = .ref a ∧ F a = some (.ins C dx us) ∧ FsOk F (g x) us, fun e ⟨a, dx, us, h1, h2, h3⟩ => ⟨a, dx, us, h1, e _ _ h2, h3.mono e⟩⟩
instance {α : Type} {C : Addr} {g : α → List (Str × Vp)} : NotNon (zIn C g) := ⟨fun F v x ⟨a, dx, us, h, _⟩ => by rw [h]; exact fun q => by cases q⟩
/-- one's own list in a field is frozen -/
theorem FsOk.at {F : Hp} {fl : List (Str × Vp)} {us : List (Str × V)} (h : FsOk F fl us) {k : Nat} {f : Str} {p q : Vp} (hk : fl[k]? = some (f, p)) (hq : ∀ v, p.p F v → q.p F v) : FsOk F (fl.set k (f, q)) us := by
  induction h generalizing k with
  | nil => cases hk
  | cons a b ih =>
    cases k with
    | zero =>
      cases hk
      exact .cons ⟨a.1, hq _ a.2⟩ b
    | succ k => exact .cons a (ih hk)
/-- what __init__ is to end with -/
def InitW {α : Type} (fr : Fr) (x C : Addr) (g : α → List (Str × Vp)) (Qn : L2.St → Hp → Prop) (Q : α → Prop) : Prop := ∀ y, Q y → ∀ (Γ : Gam) (Θ : List Cel) (i : Nat) (dx : Addr), Θ[i]? = some (cI x C dx (g y)) → Kn fr Γ Θ Qn
end
section
variable {P : Program} {w : World} {K : PySem.W.Frag} {mg : Str → Option Value} {base : Heap} {x m qual : Str} {C : Addr} {st : Stmt} {N ps : List Str} {k : Nat} {α β γ : Type} {ef : HE → Er} {args : List Addr → α → List Vp} {cin : List Addr → α → List Cel} {cout : List Addr → α → γ → List Cel} {r : Rep β} {md : α → DM (β × γ)}
theorem SrcI.okW {α β : Type} {args : α → List Vp} {md : α → DM β} {g : β → List (Str × Vp)} (F : SrcI K C qual st ps) (S : FnScope N ps (defScope st)) (len : ∀ x, (args x).length + 1 = ps.length)
    (hbody : ∀ (f : Addr) (cdv : Value) (A : Around) (outer : List Env) (s : Shared) (H : Hp) (E : XK) (a : α) (Q : β → Prop) (X : HE → Prop), Room k (A.deeper (envOfC qual (defScope st) s.heap.objs.size f cdv)) → md a Q X →
      ∃ t, PSs (cxOf (L2.CX P w) P w K mg base N qual (defScope st) f cdv A outer s H E) (defBody st) t ∧ ∀ fr x dx (Qn : L2.St → Hp → Prop) (rt : VK), InitW fr x C g Qn Q → RseW fr E ef X → Kn fr (envOf N (zAt x :: args a)) [cI x C dx []] (t { nx := Qn, rt := rt })) : DefI P w K mg base (L2.CX P w) (k + 1) C ps (spI C (preW ef args (zIn C g) md)) :=
  F.okAX S (fun qs out err ⟨a, Q, X, e, _⟩ => by rw [e]; exact len a) fun f cdv A outer s H E qs out err hr ⟨a, Q, X, e1, h, e2, e3⟩ => by
    subst e1 e2 e3
    obtain ⟨t, ht, hk⟩ := hbody f cdv A outer s H E a Q X hr h
    refine ⟨t, ht, fun fr x dx Qn rt hq hrt hrse => hk fr x dx Qn rt (fun y hy Γ Θ i dx' hi σ F' H' ok env => ?_) fun z hz Γ Θ => kr_E hrse ⟨z, hz, rfl⟩⟩
    obtain ⟨h1, ⟨o, h2, us, rfl, h4⟩, h5⟩ := ok.ce _ (List.mem_of_getElem? hi)
    have ok2 := ok.frz hi rfl h2
    have sF : Same F' (upd F' x (.ins C dx' us)) := same_upd h1
    exact hq _ ⟨y, hy, rfl⟩ σ _ H' ⟨_, ok2⟩ ⟨x, dx', us, rfl, upd_same, h4.mono sF⟩
end
end L2
set_option Elab.async false
set_option linter.all false
set_option maxRecDepth 100000
set_option maxHeartbeats 4000000
namespace L2
open PySem PySem.Spec PyProof.Rows PySem.HErr
open PySem.W (findIn isFn selfFirst subIn)
/-- what a comparison of the class at C asks -/
structure CmpC (K : PySem.W.Frag) (C : Addr) : Prop where
  si : subIn K (.type "int") (.ref C) = some false
  is : subIn K (.ref C) (.type "int") = some false
section
variable {P : Program} {w : World} {A : Around} {E : Value → Shared → Prop} {s : Shared} {K : PySem.W.Frag} {x y C dx f : Addr} {ox : Obj} {od : Option Obj} {i : Int} {t : Tok} {b : Value}
/-- the right side: an int, or of the same class -/
def Rgt (P : Program) (w : World) (s : Shared) (C : Addr) (b : Value) : Prop := (∃ i t, b = .int i t) ∨ PySem.W.Looks (model P w) s.heap (typeOf b) (.ref C)
theorem bound_blt {name : Str} {id : String} {args : List Value} {Q : Option Value → Shared → Prop} (X : K.In s.heap) (I : PySem.W.InstAt s.heap x ox C od) (hs : findIn K (.ref C) name = some (some (.builtin id)))
    (hb : ∀ self, bindSpecial (.builtin id) self = pure (.builtin id, [self])) (h : wpAny (model P w) A (call (.builtin id) (.ref x :: args)) (fun v => Q (some v)) E s) : wpAny (model P w) A (callSpecialIfBound? (.ref x) name args) Q E s := by
  have fin : wpAny (model P w) A (call (.builtin id) ([.ref x] ++ args) >>= fun v => pure (some v)) Q E s := wpAny_bind (wpAny_mono h (fun v s' q => wpAny_pure q) fun _ _ q => q)
  simp only [callSpecialIfBound?, bindSpecialIfBound?, specialOf]
  refine wpAny_holding (wpAny_bind (wpAny_bind ?_))
  refine wpAny_bind (I.type.here ?_)
  refine (PySem.W.looks_findIn X hs).here ?_
  refine wpAny_bind (wpAny_askSetting (wpAny_ite ?_))
  split
  · rw [hb]; exact wpAny_bind (wpAny_pure (wpAny_pure fin))
  · rw [hb]; exact wpAny_tryCatch (wpAny_bind (wpAny_pure (wpAny_pure fin)))
/-- != by object's own, which asks == -/
theorem try_ne {Q : Option Value → Shared → Prop} (hu : A.in1.units < cLine) (X : K.In s.heap) (I : PySem.W.InstAt s.heap x ox C od) (hn : findIn K (.ref C) "__ne__" = some (some (.builtin "object.__ne__"))) (hm : PySem.W.mroIn K C (.type "object") = some true)
    (hs : findIn K (.ref C) "__eq__" = some (some (.ref f))) (hf : isFn K (.ref f) = true)
    (h : wpAny (model P w) A.in1 (call (.ref f) [.ref x, b]) (fun v s' => ∃ c, v = .bool c ∧ Q (some (.bool (!c))) s') E s) : wpAny (model P w) A (tryCompare (.ref x) "__ne__" b) Q E s := by
  unfold tryCompare
  refine wpAny_bind (bound_blt X I hn PySem.F.slot_object_ne.bind ?_)
  refine wpAny_call (codeAny_call_builtin PySem.F.slot_object_ne.plain PySem.F.entry_object_ne (PySem.W.check_slot (i := "object.__ne__") (owner := "object") (n := "__ne__") (by decide +kernel) (by decide +kernel) (I.type.andThen (PySem.W.looks_mroIn X hm)) (PySem.F.args_object_ne_2 _ _) ?_))
  unfold Builtin.«object.__ne__»
  refine wpAny_bind (m := slotArgs "__ne__" 1 _) (wpAny_pure ?_)
  refine wpAny_bind (m := cRoomFor _ _) (wpAny_cRoomFor hu ?_)
  refine wpAny_bind (m := callSpecialIfBound? (.ref x) (Str.ofString "__eq__") _) (PySem.W.ifBound_K X I hs hf (wpAny_mono h (fun v s' ⟨c, e, q⟩ => ?_) fun _ _ e => e))
  subst e
  refine wpAny_bind (m := truthy (.bool c)) (wpAny_pure ?_)
  exact wpAny_pure (wpAny_pure q)
theorem cmp_left {op : CmpOp} {Q : Value → Shared → Prop} (hop : ∀ a b, compareOp op a b = richCompare op a b) (hu : A.units < cLine) (X : K.In s.heap) (I : PySem.W.InstAt s.heap x ox C od) (O : CmpC K C) (hb : Rgt P w s C b)
    (h : wpAny (model P w) A (tryCompare (.ref x) (cmpInfo op).2.1 b) (fun r s' => ∃ v, r = some v ∧ Q v s') E s) : wpAny (model P w) A (compareOp op (.ref x) b) Q E s := by
  rw [hop]
  unfold richCompare
  simp only [oneThing_ref]
  rcases hi : cmpInfo op with ⟨sym, nf, nr⟩
  rw [hi] at h
  refine wpAny_holding ?_
  refine wpAny_bind (wpAny_cRoomFor hu ?_)
  dsimp only at h ⊢
  refine wpAny_bind (I.type.here ?_)
  rcases hb with ⟨i, t, rfl⟩ | hb
  · refine wpAny_bind (wpAny_pure ?_)
    rw [show (Value.ref C != Value.type "int") = true from by simp]
    simp only [if_true]
    refine wpAny_bind ((PySem.W.looks_subIn X O.si).here ?_)
    simp only [Bool.false_eq_true, if_false]
    exact wpAny_bind (wpAny_mono h (fun r s' ⟨v, e, q⟩ => by subst e; exact wpAny_pure q) fun _ _ e => e)
  · refine wpAny_bind (hb.here ?_)
    rw [show (Value.ref C != Value.ref C) = false from by simp]
    simp only [Bool.false_eq_true, if_false]
    refine wpAny_bind (wpAny_pure ?_)
    simp only [Bool.false_eq_true, if_false]
    exact wpAny_bind (wpAny_mono h (fun r s' ⟨v, e, q⟩ => by subst e; exact wpAny_pure q) fun _ _ e => e)
end
/-- an int, or an instance of the class at C -/
def RgtV (C : Addr) (y : V) (H : Hp) : Prop := (∃ i, y = .int i) ∨ ∃ b dx fs, y = .ref b ∧ H b = some (.ins C dx fs)
def tNe2 (C : Addr) (sp : Sp) (E : St → XK) (ta tb : TE) : TE := fun σ H Q => ta σ H fun x H1 => tb σ H1 fun y H2 => ∃ a dx fs, x = .ref a ∧ H2 a = some (.ins C dx fs) ∧ RgtV C y H2 ∧ sp [.ref a, y] H2 (fun v H3 => ∃ c, v = .bl c ∧ Q (.bl (!c)) H3) (E σ)
section
variable {X : Cx} {CX : CXT} {k : Nat} {C : Addr} {ps : List Str} {sp : Sp} {E : St → XK} {R : V → Prop} {l r : Expr} {ta tb : TE} {pos : Pos} {m : Str}
theorem rgt_of {pins : List (Addr × Obj)} {σ : St} {H : Hp} {s : Shared} {y : V} {u : Value} (I : Inv X pins σ H s) (ry : RelV y u) (h : RgtV C y H) : Rgt X.prog X.w s C u := by
  rcases h with ⟨i, rfl⟩ | ⟨b, dx, fs, rfl, hb⟩
  · obtain ⟨t, rfl⟩ := ry
    exact .inl ⟨i, t, rfl⟩
  · obtain rfl : u = Value.ref b := ry
    obtain ⟨mA, O, _⟩ := ins_get I.hok hb
    obtain ⟨od, J, _⟩ := O.look
    exact .inr J.type
/-- what != asks of a class that has == alone -/
structure NeC (K : PySem.W.Frag) (C : Addr) : Prop where
  ne : findIn K (.ref C) "__ne__" = some (some (.builtin "object.__ne__"))
  ob : PySem.W.mroIn K C (.type "object") = some true
theorem pc_ne2 (D : DefM X.prog X.w X.K X.mg X.base CX k C "__eq__" ps sp) (O : CmpC X.K C) (N : NeC X.K C) (hr : Room (k + 1) X.A) (hx : ∀ σ, PassesAt CX X σ (E σ)) (hl : PE X l ta) (hrr : PE X r tb) : PC X .NotEq l r (tNe2 C sp E ta tb) := by
  obtain ⟨f, fd, hlk, hm, hb, F⟩ := D.ex
  refine ⟨fun pins s σ H Q I h => ?_⟩
  refine thn (hl.run pins s σ H _ I h) fun iv s1 ⟨x, H1, I1, rx, q1⟩ => thn (hrr.run pins s1 σ H1 _ I1 q1) fun u s2 ⟨y, H2, I2, ry, a, dx, fs, ex, ea, hy, q2⟩ => ?_
  subst ex
  obtain rfl : iv = Value.ref a := rx
  obtain ⟨mA, O1, _⟩ := ins_get I2.hok ea
  obtain ⟨od, J, _⟩ := O1.look
  have run := run_fnS1 (us := [.ref a, u]) (vs := [.ref a, y]) F hr hb (hx σ) I2 (.cons rfl (.cons ry .nil)) q2
  refine cmp_left (fun _ _ => rfl) (Nat.lt_of_le_of_lt (Nat.le_add_right _ 64) hr.units) I2.kIn J O (rgt_of I2 ry hy) (try_ne (Nat.lt_of_le_of_lt (Nat.le_add_right _ 64) hr.in1.units) I2.kIn J N.ne N.ob hm.at_ hm.fn (wpAny_mono run (fun v s3 ⟨z, H3, I3, rz, c, e, q3⟩ => ?_) fun _ _ e => e))
  subst e
  cases rz
  exact ⟨c, rfl, _, rfl, .bl (!c), H3, I3, rfl, q3⟩
end
end L2
set_option Elab.async false
set_option linter.all false
set_option maxRecDepth 100000
set_option maxHeartbeats 4000000
namespace L2
open PySem PySem.Spec PyProof.Rows PySem.HErr
open PySem.W (findIn isFn)
section
variable {fr : Fr} {Γ Γ' : Gam} {Θ : List Cel} {F F' H H' : Hp} {K : Vp → List Cel → Prop} {Q : VK} {C : Addr} {sp : Sp} {E : L2.St → XK} {R : V → Prop} {ta tb : TE}
/-- what stands on the right side -/
def RgtP (fr : Fr) (Θ : List Cel) (C : Addr) (q : Vp) : Prop := ∀ F H v, OkF fr Θ F H → q.p F v → RgtV C v H
theorem rg_C {p : Vp} (h : InsC fr Θ p C) : RgtP fr Θ C p := fun F H v ok hv => .inr (h F H v ok hv)
theorem we_ne2 (w : We fr Γ Θ ta fun p Θ1 => We fr Γ Θ1 tb fun q Θ2 => InsC fr Θ2 p C ∧ RgtP fr Θ2 C q ∧ Sps fr Γ Θ2 sp E [p, q] fun r Θ3 => ∃ b, r = iz zB b ∧ K (iz zB (!b)) Θ3) : We fr Γ Θ (tNe2 C sp E ta tb) K := fun σ F H ok env Q k =>
  w σ F H ok env _ fun p Θ1 w1 x F1 H1 s1 ok1 hx => w1 σ F1 H1 ok1 (env.mono s1) _ fun q Θ2 ⟨ic, ir, w2⟩ y F2 H2 s2 ok2 hy => by
    have hx2 := p.mono s2 hx
    obtain ⟨a, dx, fs, rfl, h2⟩ := ic F2 H2 x ok2 hx2
    exact ⟨a, dx, fs, rfl, h2, ir F2 H2 y ok2 hy, w2 σ F2 H2 _ ok2 ((env.mono s1).mono s2) (.cons hx2 (.cons hy .nil)) _ fun r Θ3 ⟨b, er, kk⟩ v F3 H3 s3 ok3 hv => by
      subst er
      have hv : v = .bl b := hv
      exact ⟨b, hv, k _ Θ3 kk _ F3 H3 ((s1.trans s2).trans s3) ok3 rfl⟩⟩
end
theorem InitW.fine {α : Type} {fr fr' : Fr} {x C : Addr} {g : α → List (Str × Vp)} {Qn : L2.St → Hp → Prop} {Q : α → Prop} (h : InitW fr x C g Qn Q) (l : FrLe fr fr') : InitW fr' x C g Qn Q := fun y hy Γ Θ i dx hi σ F H ok env => h y hy Γ Θ i dx hi σ F H (ok.le l) env
end L2
set_option Elab.async false
set_option linter.all false
set_option maxRecDepth 100000
set_option maxHeartbeats 4000000
namespace L2
open PySem PySem.Spec PyProof.Rows PySem.HErr
abbrev TRw := Str × List Int × List Int
def IxOk (n : Nat) (ks : List Int) : Prop := ks.Nodup ∧ ∀ k ∈ ks, ∃ j : Nat, k = (j : Int) ∧ j < n
/-- the state behind a step -/
def mvF (s t g : List Int) : List Int := (List.range s.length).map fun (j : Nat) => s.getD j 0 - (if (j : Int) ∈ t then 1 else 0) + (if (j : Int) ∈ g then 1 else 0)
theorem mvF_len {s t g : List Int} : (mvF s t g).length = s.length := by unfold mvF; rw [List.length_map, List.length_range]
theorem mvF_get {s t g : List Int} {j : Nat} (h : j < s.length) : (mvF s t g).getD j 0 = s.getD j 0 - (if (j : Int) ∈ t then 1 else 0) + (if (j : Int) ∈ g then 1 else 0) := by
  unfold mvF
  rw [List.getD_eq_getElem?_getD, List.getElem?_map, List.getElem?_range h]
  rfl
def enB (s t : List Int) : Bool := t.all fun k => decide (s.getD k.toNat 0 > 0)
def movF (s t g : List Int) : Option (List Int) := if enB s t = true then some (mvF s t g) else none
def NonN (s : List Int) : Prop := ∀ n ∈ s, 0 ≤ n
theorem NonN.get {s : List Int} (h : NonN s) (j : Nat) : 0 ≤ s.getD j 0 := by
  rw [List.getD_eq_getElem?_getD]
  cases e : s[j]? with
  | none => exact Int.le_refl _
  | some x => exact h x (List.mem_of_getElem? e)
theorem nonN_of {s : List Int} (h : ∀ j < s.length, 0 ≤ s.getD j 0) : NonN s := fun n hn => by
  obtain ⟨j, hj⟩ := List.getElem?_of_mem hn
  have h1 := (List.getElem?_eq_some_iff.mp hj).1
  have := h j h1
  rw [List.getD_eq_getElem?_getD, hj] at this
  exact this
theorem movF_len {s t g z : List Int} (h : movF s t g = some z) : z.length = s.length := by
  unfold movF at h
  split at h
  · cases h; exact mvF_len
  · cases h
theorem movF_non {s t g z : List Int} (hs : NonN s) (ht : IxOk s.length t) (h : movF s t g = some z) : NonN z := by
  unfold movF at h
  split at h
  · rename_i he
    cases h
    refine nonN_of fun j hj => ?_
    rw [mvF_len] at hj
    rw [mvF_get hj]
    have h0 := hs.get j
    by_cases q : (j : Int) ∈ t
    · have := List.all_eq_true.mp he _ q
      have := of_decide_eq_true this
      rw [Int.toNat_natCast] at this
      rw [if_pos q]
      split <;> omega
    · rw [if_neg q]
      split <;> omega
  · cases h
/-- two tables of the same steps -/
def RowR (n : Nat) (a b : TRw) : Prop := a.1 = b.1 ∧ (∀ k, k ∈ a.2.1 ↔ k ∈ b.2.1) ∧ (∀ k, k ∈ a.2.2 ↔ k ∈ b.2.2) ∧ IxOk n a.2.1 ∧ IxOk n a.2.2 ∧ IxOk n b.2.1 ∧ IxOk n b.2.2
abbrev TabRel (n : Nat) (a b : List TRw) : Prop := Paired (RowR n) a b
def TabOk (n : Nat) (a : List TRw) : Prop := (∀ r ∈ a, IxOk n r.2.1 ∧ IxOk n r.2.2) ∧ (a.map (·.1)).Nodup
def rowOf (tab : List TRw) (z : Str) : Option TRw := tab.find? fun r => decide (r.1 = z)
theorem TabRel.row {n : Nat} {a b : List TRw} (h : TabRel n a b) (z : Str) : (rowOf a z = none ∧ rowOf b z = none) ∨ ∃ r r', rowOf a z = some r ∧ rowOf b z = some r' ∧ RowR n r r' := by
  induction h with
  | nil => exact .inl ⟨rfl, rfl⟩
  | @cons r r' as bs hr _ ih =>
    unfold rowOf
    rw [List.find?_cons, List.find?_cons]
    by_cases e : r.1 = z
    · refine .inr ⟨r, r', ?_, ?_, hr⟩
      · rw [decide_eq_true e]
      · rw [decide_eq_true (hr.1.symm.trans e)]
    · rw [decide_eq_false e, decide_eq_false (fun q => e (hr.1.trans q))]
      exact ih
/-- the state behind a run -/
def runF (tab : List TRw) : List Int → List Str → Option (List Int)
  | s, [] => some s
  | s, z :: zs => match rowOf tab z with
    | none => none
    | some r => match movF s r.2.1 r.2.2 with
      | none => none
      | some s' => runF tab s' zs
theorem runF_app (tab : List TRw) : ∀ (zs ys : List Str) (s : List Int), runF tab s (zs ++ ys) = (runF tab s zs).bind fun s' => runF tab s' ys
  | [], ys, s => rfl
  | z :: zs, ys, s => by
    show runF tab s (z :: (zs ++ ys)) = _
    rw [runF, runF]
    cases rowOf tab z with
    | none => rfl
    | some r =>
      dsimp only
      cases movF s r.2.1 r.2.2 with
      | none => rfl
      | some s' => exact runF_app tab zs ys s'
theorem rowOf_mem {tab : List TRw} {z : Str} {r : TRw} (h : rowOf tab z = some r) : r ∈ tab ∧ r.1 = z := ⟨List.mem_of_find?_eq_some h, of_decide_eq_true (List.find?_some (p := fun r : TRw => decide (r.1 = z)) h)⟩
theorem runF_keep {n : Nat} {tab : List TRw} (ht : TabOk n tab) : ∀ (zs : List Str) {s z : List Int}, s.length = n → NonN s → runF tab s zs = some z → z.length = n ∧ NonN z
  | [], s, z, hl, hn, h => by cases h; exact ⟨hl, hn⟩
  | y :: zs, s, z, hl, hn, h => by
    unfold runF at h
    cases e : rowOf tab y with
    | none => rw [e] at h; cases h
    | some r =>
      rw [e] at h
      dsimp only at h
      cases e2 : movF s r.2.1 r.2.2 with
      | none => rw [e2] at h; cases h
      | some s' =>
        rw [e2] at h
        exact runF_keep ht zs ((movF_len e2).trans hl) (movF_non hn (by rw [hl]; exact (ht.1 r (rowOf_mem e).1).1) e2) h
theorem TabRel.names {n : Nat} {a b : List TRw} (h : TabRel n a b) : a.map (·.1) = b.map (·.1) := by
  induction h with
  | nil => rfl
  | cons hr _ ih => rw [List.map_cons, List.map_cons, hr.1, ih]
end L2
set_option Elab.async false
set_option linter.all false
set_option maxRecDepth 100000
set_option maxHeartbeats 4000000
namespace L2
open PySem PySem.Spec PyProof.Rows PySem.HErr
open PySem.W (findIn isFn)
structure SrcIK (K : PySem.W.Frag) (C : Addr) (qual : Str) (st : Stmt) : Prop where
  ex : ∃ f fd, FunA K "__init__" qual st f fd ∧ Mk K C f
structure DefIK (P : Program) (w : World) (K : PySem.W.Frag) (mg : Str → Option Value) (base : Heap) (CX : CXT) (k : Nat) (C : Addr) (ps : List Str) (sp : Sp) : Prop where
  ex : ∃ f fd, LkF K f fd ∧ Mk K C f ∧ FnOk P w K mg base CX k f fd ps sp
section
variable {P : Program} {w : World} {K : PySem.W.Frag} {mg : Str → Option Value} {base : Heap} {CX : CXT} {qual : Str} {C : Addr} {st : Stmt} {N ps : List Str} {k : Nat} {sp : Sp} {pre : Pre} {ef : HE → Er}
theorem DefIK.mono {j : Nat} (D : DefIK P w K mg base CX j C ps sp) (h : j ≤ k) : DefIK P w K mg base CX k C ps sp := by
  obtain ⟨f, fd, hlk, h1, h3⟩ := D.ex
  exact ⟨f, fd, hlk, h1, h3.mono h⟩
theorem SrcIK.okX (F : SrcIK K C qual st) (S : FnScope N ps (defScope st)) (len : ∀ vs H Q E, sp vs H Q E → vs.length = ps.length)
    (hbody : ∀ (f : Addr) (cdv : Value) (A : Around) (outer : List Env) (s : Shared) (H : Hp) (vs : List V) (Q : VK) (E : XK), Room k (A.deeper (envOfC qual (defScope st) s.heap.objs.size f cdv)) → sp vs H Q E →
      ∃ t, PSs (cxOf (L2.CX P w) P w K mg base N qual (defScope st) f cdv A outer s H E) (defBody st) t ∧ t { nx := fun _ H' => Q .non H', rt := Q } (start N vs) H) : DefIK P w K mg base (L2.CX P w) (k + 1) C ps sp := by
  obtain ⟨f, fd, h1, h2⟩ := F.ex
  exact ⟨f, fd, h1.lk, h2, h1.okX S len (hbody f)⟩
theorem SrcIK.okAX (F : SrcIK K C qual st) (S : FnScope N ps (defScope st)) (len : ∀ qs out err, pre qs out err → qs.length + 1 = ps.length)
    (hbody : ∀ (f : Addr) (cdv : Value) (A : Around) (outer : List Env) (s : Shared) (H : Hp) (E : XK) (qs : List Vp) (out : Vp → Prop) (err : Er → Prop), Room k (A.deeper (envOfC qual (defScope st) s.heap.objs.size f cdv)) → pre qs out err →
      ∃ t, PSs (cxOf (L2.CX P w) P w K mg base N qual (defScope st) f cdv A outer s H E) (defBody st) t ∧ ∀ fr x dx (Q : L2.St → Hp → Prop) (rt : VK), (∀ p, out p → ∀ σ F H, (∃ Θ, OkF fr Θ F H) → p.p F (.ref x) → Q σ H) → (∀ p, out p → ∀ F H, (∃ Θ, OkF fr Θ F H) → p.p F (.ref x) → rt .non H) → Rse fr E err →
        Kn fr (envOf N (zAt x :: qs)) [cI x C dx []] (t { nx := Q, rt := rt })) : DefIK P w K mg base (L2.CX P w) (k + 1) C ps (spI C pre) := by
  refine F.okX S (fun vs H Q E h => ?_) (fun f cdv A outer s H vs Q E hr h => ?_)
  · obtain ⟨x, dx, vs', F, qs, out, err, rfl, _, _, _, h2, h3, _⟩ := h
    rw [List.length_cons, ← Paired.len h2]
    exact len _ _ _ h3
  · obtain ⟨x, dx, vs', F, qs, out, err, rfl, hx, fx, fh, h2, h3, h4, h5⟩ := h
    obtain ⟨t, ht, hk⟩ := hbody f cdv A outer s H E qs out err hr h3
    have post : ∀ {Θ : List Cel} {F' H' : Hp}, OkF ⟨F, minus H x, []⟩ Θ F' H' → Same (minus H x) H' ∧ Same F F' ∧ Same F' H' ∧ Newer F (minus H x) F' := fun ok => ⟨fun a o h => ok.h0 a o (by simp) h, ok.f0, ok.fh, ok.nw⟩
    have c1 : ∀ p, out p → ∀ (σ : L2.St) F' H', (∃ Θ, OkF ⟨F, minus H x, []⟩ Θ F' H') → p.p F' (.ref x) → Q .non H' := fun p hp σ F' H' ⟨Θ, ok⟩ hv => by
      obtain ⟨a, b, c, d⟩ := post ok
      exact h4 p hp F' H' a b c d hv
    have c2 : Rse ⟨F, minus H x, []⟩ E err := fun e he Θ F' H' d us ok hd hf => by
      obtain ⟨a, b, c, n⟩ := post ok
      exact h5 e he F' H' d us a b c n hd hf
    exact ⟨t, ht, hk ⟨F, minus H x, []⟩ x dx (fun _ H' => Q .non H') Q c1 (fun p hp F' H' => c1 p hp [] F' H') c2 _ F H (okf_init hx fx fh) (env_start (vs := .ref x :: vs') (.cons rfl h2))⟩
theorem SrcIK.okW {α β : Type} {args : α → List Vp} {md : α → DM β} {g : β → List (Str × Vp)} (F : SrcIK K C qual st) (S : FnScope N ps (defScope st)) (len : ∀ x, (args x).length + 1 = ps.length)
    (hbody : ∀ (f : Addr) (cdv : Value) (A : Around) (outer : List Env) (s : Shared) (H : Hp) (E : XK) (a : α) (Q : β → Prop) (X : HE → Prop), Room k (A.deeper (envOfC qual (defScope st) s.heap.objs.size f cdv)) → md a Q X →
      ∃ t, PSs (cxOf (L2.CX P w) P w K mg base N qual (defScope st) f cdv A outer s H E) (defBody st) t ∧ ∀ fr x dx (Qn : L2.St → Hp → Prop) (rt : VK), InitW fr x C g Qn Q → RseW fr E ef X → Kn fr (envOf N (zAt x :: args a)) [cI x C dx []] (t { nx := Qn, rt := rt })) : DefIK P w K mg base (L2.CX P w) (k + 1) C ps (spI C (preW ef args (zIn C g) md)) :=
  F.okAX S (fun qs out err ⟨a, Q, X, e, _⟩ => by rw [e]; exact len a) fun f cdv A outer s H E qs out err hr ⟨a, Q, X, e1, h, e2, e3⟩ => by
    subst e1 e2 e3
    obtain ⟨t, ht, hk⟩ := hbody f cdv A outer s H E a Q X hr h
    refine ⟨t, ht, fun fr x dx Qn rt hq hrt hrse => hk fr x dx Qn rt (fun y hy Γ Θ i dx' hi σ F' H' ok env => ?_) fun z hz Γ Θ => kr_E hrse ⟨z, hz, rfl⟩⟩
    obtain ⟨h1, ⟨o, h2, us, rfl, h4⟩, h5⟩ := ok.ce _ (List.mem_of_getElem? hi)
    have ok2 := ok.frz hi rfl h2
    have sF : Same F' (upd F' x (.ins C dx' us)) := same_upd h1
    exact hq _ ⟨y, hy, rfl⟩ σ _ H' ⟨_, ok2⟩ ⟨x, dx', us, rfl, upd_same, h4.mono sF⟩
end
end L2
set_option Elab.async false
set_option linter.all false
set_option maxRecDepth 100000
set_option maxHeartbeats 4000000
namespace L2
open PySem PySem.Spec PyProof.Rows PySem.HErr
end L2
set_option Elab.async false
set_option linter.all false
set_option maxRecDepth 100000
set_option maxHeartbeats 4000000
namespace L2
open PySem PySem.Spec PyProof.Rows PySem.HErr
/-- an address as a thing -/
def zR : Rep Addr := ⟨fun _ v a => v = .ref a, fun _ h => h⟩
/-- ghost rows of a dict of own lists: key, the list's place, what is in it -/
abbrev GR (α : Type) := List (List Int × Addr × List α)
def gK {α : Type} (g : GR α) : List (List Int × Addr) := g.map fun x => (x.1, x.2.1)
def gC {α : Type} (r : Rep α) (g : GR α) : List Cel := g.map fun x => cY x.2.1 r x.2.2
def GNd {α : Type} (g : GR α) : Prop := (g.map (·.1)).Nodup
end L2
set_option Elab.async false
set_option linter.all false
set_option maxRecDepth 100000
set_option maxHeartbeats 4000000
namespace L2
open PySem PySem.Spec PyProof.Rows PySem.HErr
section
variable {fr fr' : Fr} {Γ Γ' : Gam} {Θ Θ' : List Cel} {F F' H H' : Hp} {K : Vp → List Cel → Prop} {Qv : VK}
theorem gK_set {α : Type} {g : GR α} {m : Nat} {k : List Int} {b : Addr} {v v' : List α} (h : g[m]? = some (k, b, v)) : gK (g.set m (k, b, v')) = gK g := by
  unfold gK
  rw [List.map_set]
  refine List.ext_getElem? fun j => ?_
  rw [List.getElem?_set, List.length_map]
  split
  · rename_i e
    subst e
    rw [List.getElem?_map, h]
    split
    · rfl
    · rename_i q
      exact absurd (List.getElem?_eq_some_iff.mp h).1 q
  · rfl
theorem GNd.set {α : Type} {g : GR α} {m : Nat} {k : List Int} {b : Addr} {v v' : List α} (n : GNd g) (h : g[m]? = some (k, b, v)) : GNd (g.set m (k, b, v')) := by
  have e : (g.set m (k, b, v')).map (·.1) = (gK (g.set m (k, b, v'))).map (·.1) := by unfold gK; rw [List.map_map]; rfl
  unfold GNd
  rw [e, gK_set h]
  unfold gK
  rw [List.map_map]
  exact n
end
end L2
set_option Elab.async false
set_option linter.all false
set_option maxRecDepth 100000
set_option maxHeartbeats 4000000
namespace L2
open PySem PySem.Spec PyProof.Rows PySem.HErr
def RetNW {β : Type} (fr : Fr) (Qv : VK) (res : β → List Addr → Vp) (cel : β → List Addr → List Cel) (Q : β → Prop) : Prop := ∀ y as, Q y → ∀ Θ'' Θx, Θ''.Perm (cel y as ++ Θx) → Rt fr Θ'' Qv (res y as)
section
variable {fr fr' : Fr} {Γ Γ' : Gam} {Θ Θ' Θr : List Cel} {F F' H H' : Hp} {K : Vp → List Cel → Prop} {Qv : VK}
theorem RetNW.fine {β : Type} {res : β → List Addr → Vp} {cel : β → List Addr → List Cel} {Q : β → Prop} (h : RetNW fr Qv res cel Q) (l : FrLe fr fr') : RetNW fr' Qv res cel Q := fun y as hy Θ'' Θx pm => (h y as hy Θ'' Θx pm).fine l
/-- what may be known while the cells Θb are lent -/
def LendR (Θb : List Cel) (F Fl : Hp) : Prop := Same F Fl ∧ ∀ c ∈ Θb, ∃ o, Fl c.a = some o ∧ c.φ F o
/-- an own list, seen as a value -/
theorem LendR.lst {α : Type} {r : Rep α} {a : Addr} {xs : List α} {Fl : Hp} (h : LendR Θ F Fl) {j : Nat} (hj : Θ[j]? = some (cY a r xs)) {v : V} (hv : (iz zR a).p F v) : (iz (yL r) xs).p Fl v := by
  obtain ⟨o, h2, ⟨⟨vs, rfl, h4⟩, h5⟩⟩ := h.2 _ (List.mem_of_getElem? hj)
  have hv : v = .ref a := hv
  subst hv
  exact ⟨⟨a, vs, rfl, h2, Paired.imp2 (fun _ _ q => r.mono h.1 q) h4⟩, h5⟩
end
end L2
set_option Elab.async false
set_option linter.all false
set_option maxRecDepth 100000
set_option maxHeartbeats 4000000
namespace L2
open PySem PySem.Spec PyProof.Rows PySem.HErr
end L2
set_option Elab.async false
set_option linter.all false
set_option maxRecDepth 100000
set_option maxHeartbeats 4000000
namespace L2
open PySem PySem.Spec PyProof.Rows PySem.HErr
end L2
set_option Elab.async false
set_option linter.all false
set_option maxRecDepth 100000
set_option maxHeartbeats 4000000
namespace L2
open PySem PySem.Spec PyProof.Rows PySem.HErr
end L2
set_option Elab.async false
set_option linter.all false
set_option maxRecDepth 100000
set_option maxHeartbeats 4000000
namespace L2
open PySem PySem.Spec PyProof.Rows PySem.HErr
open PySem.W (findIn isFn)
end L2
set_option Elab.async false
set_option linter.all false
set_option maxRecDepth 100000
set_option maxHeartbeats 4000000
namespace L2
open PySem PySem.Spec PyProof.Rows PySem.HErr
instance {α β : Type} {r : Rep α} {s : Rep β} [d : XDat r] [e : XDat s] : XDat (yU r s) := ⟨fun x => match x with | .inl a => d.enc a | .inr b => e.enc b, max d.dep e.dep, fun {F v x} h => by
  cases x with
  | inl a => exact ⟨(d.xd h).1, Nat.le_trans (d.xd h).2 (Nat.le_max_left _ _)⟩
  | inr b => exact ⟨(e.xd h).1, Nat.le_trans (e.xd h).2 (Nat.le_max_right _ _)⟩⟩
instance {α β : Type} {r : Rep α} {s : Rep β} [d : NotNon r] [e : NotNon s] : NotNon (yU r s) := ⟨fun F v x h => by
  cases x with
  | inl a => exact d.nn F v a h
  | inr b => exact e.nn F v b h⟩
end L2
set_option Elab.async false
set_option linter.all false
set_option maxRecDepth 100000
set_option maxHeartbeats 4000000
namespace L2
open PySem PySem.Spec PyProof.Rows PySem.HErr
class EDat {α : Type} (r : Rep α) where
  enc : α → PyData
  dep : Nat
  dp : ∀ {Kf : PySem.W.Frag} {F : Hp} {v : V} {x : α}, r.p F v x → Dp Kf F v (enc x)
  cl : ∀ {F : Hp} {v : V} {x : α}, r.p F v x → (enc x).canLay0 = true
  dl : ∀ {F : Hp} {v : V} {x : α}, r.p F v x → (enc x).depth ≤ dep
instance (priority := low) edX {α : Type} {r : Rep α} [d : XDat r] : EDat r := ⟨d.enc, d.dep, fun {Kf F v x} h => (xp_dp (Kf := Kf) _ _ (d.xd h).1).1, fun {F v x} h => lay_nb _ (xp_dp (Kf := []) _ _ (d.xd h).1).2, fun h => (d.xd h).2⟩
instance edB : EDat zB := ⟨PyData.bool, 0, fun h => by cases (show _ = V.bl _ from h); exact .bl _, fun _ => by simp only [PyData.canLay0], fun _ => by simp [PyData.depth]⟩
instance edN : EDat yN := ⟨fun _ => PyData.none, 0, fun h => by cases (show _ = V.non from h); exact .non, fun _ => by simp only [PyData.canLay0], fun _ => by simp [PyData.depth]⟩
instance ed2 {α β : Type} {r : Rep α} {s : Rep β} [d : EDat r] [e : EDat s] : EDat (z2 r s) := ⟨fun x => .tuple [d.enc x.1, e.enc x.2], max d.dep e.dep + 1, fun ⟨a, v1, v2, h1, h2, h3, h4⟩ => by subst h1; exact .tup (SqT.of h2) (.cons (d.dp h3) (.cons (e.dp h4) .nil)),
  fun ⟨a, v1, v2, h1, h2, h3, h4⟩ => by simp only [PyData.canLay0, PyData.canLayAll0, d.cl h3, e.cl h4, Bool.and_self],
  fun ⟨a, v1, v2, h1, h2, h3, h4⟩ => by
    have := d.dl h3
    have := e.dl h4
    simp only [PyData.depth, PyData.depthAll]
    omega⟩
instance ed3 {α β γ : Type} {r : Rep α} {s : Rep β} {t : Rep γ} [d : EDat r] [e : EDat s] [f : EDat t] : EDat (z3 r s t) := ⟨fun x => .tuple [d.enc x.1, e.enc x.2.1, f.enc x.2.2], max d.dep (max e.dep f.dep) + 1, fun ⟨a, v1, v2, v3, h1, h2, h3, h4, h5⟩ => by subst h1; exact .tup (SqT.of h2) (.cons (d.dp h3) (.cons (e.dp h4) (.cons (f.dp h5) .nil))),
  fun ⟨a, v1, v2, v3, h1, h2, h3, h4, h5⟩ => by simp only [PyData.canLay0, PyData.canLayAll0, d.cl h3, e.cl h4, f.cl h5, Bool.and_self],
  fun ⟨a, v1, v2, v3, h1, h2, h3, h4, h5⟩ => by
    have := d.dl h3
    have := e.dl h4
    have := f.dl h5
    simp only [PyData.depth, PyData.depthAll]
    omega⟩
instance edO {α : Type} {r : Rep α} [d : EDat r] : EDat (yO r) := ⟨fun x => match x with | none => .none | some y => d.enc y, d.dep, fun {Kf F v x} h => by
    cases x with
    | none => cases (show v = V.non from h); exact .non
    | some y => exact d.dp h,
  fun {F v x} h => by
    cases x with
    | none => simp only [PyData.canLay0]
    | some y => exact d.cl h,
  fun {F v x} h => by
    cases x with
    | none => simp [PyData.depth]
    | some y => exact d.dl h⟩
instance edU {α β : Type} {r : Rep α} {s : Rep β} [d : EDat r] [e : EDat s] : EDat (yU r s) := ⟨fun x => match x with | .inl a => d.enc a | .inr b => e.enc b, max d.dep e.dep, fun {Kf F v x} h => by
    cases x with
    | inl a => exact d.dp h
    | inr b => exact e.dp h,
  fun {F v x} h => by
    cases x with
    | inl a => exact d.cl h
    | inr b => exact e.cl h,
  fun {F v x} h => by
    cases x with
    | inl a => exact Nat.le_trans (d.dl h) (Nat.le_max_left ..)
    | inr b => exact Nat.le_trans (e.dl h) (Nat.le_max_right ..)⟩
end L2
set_option Elab.async false
set_option linter.all false
set_option maxRecDepth 100000
set_option maxHeartbeats 4000000
namespace L2
open PySem PySem.Spec PyProof.Rows PySem.HErr
instance {α β : Type} {r : Rep α} {s : Rep β} [d : XDat r] [e : XDat s] [b : XBack r] [c : XBack s] [m : XNoS s] : XBack (z2 r s) := ⟨fun {F v x} h hd => by
  simp only [XDat.enc, xp] at h
  obtain ⟨a, vs, h1, h2, h3, h4⟩ := h
  simp only [xpAll] at h4
  obtain ⟨v1, r1, rfl, h5, v2, r2, rfl, h6, rfl⟩ := h4
  simp only [XDat.enc, PyData.depth, PyData.depthAll] at hd
  exact ⟨a, v1, v2, h1, h2.nar (by rw [isSDs_no (List.mem_cons_of_mem _ (List.mem_cons_self ..)) (m.ns x.2)]; rfl), b.bk h5 (by omega), c.bk h6 (by omega)⟩⟩
instance {α β : Type} {r : Rep α} {s : Rep β} [d : XDat r] [e : XDat s] [b : XBack r] [c : XBack s] [n : XNoS r] : XBack (z2 r s) := ⟨fun {F v x} h hd => by
  simp only [XDat.enc, xp] at h
  obtain ⟨a, vs, h1, h2, h3, h4⟩ := h
  simp only [xpAll] at h4
  obtain ⟨v1, r1, rfl, h5, v2, r2, rfl, h6, rfl⟩ := h4
  simp only [XDat.enc, PyData.depth, PyData.depthAll] at hd
  exact ⟨a, v1, v2, h1, h2.nar (by rw [isSDs_no (List.mem_cons_self ..) (n.ns x.1)]; rfl), b.bk h5 (by omega), c.bk h6 (by omega)⟩⟩
end L2
set_option Elab.async false
set_option linter.all false
set_option maxRecDepth 100000
set_option maxHeartbeats 4000000
namespace L2
open PySem PySem.Spec PyProof.Rows PySem.HErr
/-- the classmethod m of the class at C stands in its def -/
structure SrcC (K : PySem.W.Frag) (C : Addr) (m qual : Str) (st : Stmt) (ps : List Str) : Prop where
  ex : ∃ p f fd, FunA K m qual st f fd ∧ ClX.CRead K C (.type "type") ∧ ClX.CMet K C (.type "type") m p f ∧ Binds K fd ps []
structure DefC (P : Program) (w : World) (K : PySem.W.Frag) (mg : Str → Option Value) (base : Heap) (CX : CXT) (k : Nat) (C : Addr) (m : Str) (ps : List Str) (sp : Sp) : Prop where
  ex : ∃ p f fd, LkF K f fd ∧ ClX.CRead K C (.type "type") ∧ ClX.CMet K C (.type "type") m p f ∧ Binds K fd ps [] ∧ FnOk P w K mg base CX k f fd ps sp
section
variable {P : Program} {w : World} {K : PySem.W.Frag} {mg : Str → Option Value} {base : Heap} {CX : CXT} {m qual : Str} {C : Addr} {st : Stmt} {N ps : List Str} {k j : Nat} {sp : Sp}
theorem DefC.mono (D : DefC P w K mg base CX j C m ps sp) (h : j ≤ k) : DefC P w K mg base CX k C m ps sp := by
  obtain ⟨p, f, fd, h1, h2, h3, h4, h5⟩ := D.ex
  exact ⟨p, f, fd, h1, h2, h3, h4, h5.mono h⟩
theorem SrcC.okX (F : SrcC K C m qual st ps) (S : FnScope N ps (defScope st)) (len : ∀ vs H Q E, sp vs H Q E → vs.length = ps.length)
    (hbody : ∀ (f : Addr) (cdv : Value) (A : Around) (outer : List Env) (s : Shared) (H : Hp) (vs : List V) (Q : VK) (E : XK), Room k (A.deeper (envOfC qual (defScope st) s.heap.objs.size f cdv)) → sp vs H Q E →
      ∃ t, PSs (cxOf (L2.CX P w) P w K mg base N qual (defScope st) f cdv A outer s H E) (defBody st) t ∧ t { nx := fun _ H' => Q .non H', rt := Q } (start N vs) H) : DefC P w K mg base (L2.CX P w) (k + 1) C m ps sp := by
  obtain ⟨p, f, fd, h1, h2, h3, h4⟩ := F.ex
  exact ⟨p, f, fd, h1.lk, h2, h3, h4, h1.okX S len (hbody f)⟩
theorem SrcC.okAX {pre : Pre} (F : SrcC K C m qual st ps) (S : FnScope N ps (defScope st)) (len : ∀ qs out err, pre qs out err → qs.length = ps.length)
    (hbody : ∀ (f : Addr) (cdv : Value) (A : Around) (outer : List Env) (s : Shared) (H : Hp) (E : XK) (qs : List Vp) (out : Vp → Prop) (err : Er → Prop), Room k (A.deeper (envOfC qual (defScope st) s.heap.objs.size f cdv)) → pre qs out err →
      ∃ t, PSs (cxOf (L2.CX P w) P w K mg base N qual (defScope st) f cdv A outer s H E) (defBody st) t ∧ ∀ fr Q, Ret fr Q out → Rse fr E err → Kn fr (envOf N qs) [] (t { nx := fun _ H' => Q .non H', rt := Q })) : DefC P w K mg base (L2.CX P w) (k + 1) C m ps (spA pre) := by
  refine F.okX S (fun vs H Q E h => ?_) (fun f cdv A outer s H vs Q E hr h => ?_)
  · obtain ⟨F, qs, out, err, _, h2, h3, _⟩ := h
    rw [← Paired.len h2]
    exact len _ _ _ h3
  · obtain ⟨F, qs, out, err, h1, h2, h3, h4, h5⟩ := h
    obtain ⟨t, ht, hk⟩ := hbody f cdv A outer s H E qs out err hr h3
    exact ⟨t, ht, hk _ Q h4.ret h5.rse _ F H (OkF.start h1) (env_start h2)⟩
theorem SrcC.okWX {α β : Type} {ef : HE → Er} {args : α → List Vp} {r : Rep β} {md : α → DM β} (F : SrcC K C m qual st ps) (S : FnScope N ps (defScope st)) (len : ∀ x, (args x).length = ps.length)
    (hbody : ∀ (f : Addr) (cdv : Value) (A : Around) (outer : List Env) (s : Shared) (H : Hp) (E : XK) (a : α) (Q : β → Prop) (X : HE → Prop), Room k (A.deeper (envOfC qual (defScope st) s.heap.objs.size f cdv)) → md a Q X →
      ∃ t, PSs (cxOf (L2.CX P w) P w K mg base N qual (defScope st) f cdv A outer s H E) (defBody st) t ∧ ∀ fr Qv, RetW fr Qv r Q → RseW fr E ef X → Kn fr (envOf N (args a)) [] (t { nx := fun _ H' => Qv .non H', rt := Qv })) : DefC P w K mg base (L2.CX P w) (k + 1) C m ps (spA (preW ef args r md)) :=
  F.okAX S (fun qs out err ⟨a, Q, X, e, _⟩ => by rw [e]; exact len a) fun f cdv A outer s H E qs out err hr ⟨a, Q, X, e1, h, e2, e3⟩ => by
    subst e1 e2 e3
    obtain ⟨t, ht, hk⟩ := hbody f cdv A outer s H E a Q X hr h
    exact ⟨t, ht, fun fr Qv hret hrse => hk fr Qv (fun y hy Θ => hret _ ⟨y, hy, rfl⟩ Θ) fun z hz Γ Θ => kr_E hrse ⟨z, hz, rfl⟩⟩
end
end L2
set_option Elab.async false
set_option linter.all false
set_option maxRecDepth 100000
set_option maxHeartbeats 4000000
namespace L2
open PySem PySem.Spec PyProof.Rows PySem.HErr
end L2
set_option Elab.async false
set_option linter.all false
set_option maxRecDepth 100000
set_option maxHeartbeats 4000000
namespace L2
open PySem PySem.Spec PyProof.Rows PySem.HErr
end L2
set_option Elab.async false
set_option linter.all false
set_option maxRecDepth 100000
set_option maxHeartbeats 4000000
namespace L2
open PySem PySem.Spec PyProof.Rows PySem.HErr
def wt (y : Nat → Int) (t : List Int) : Int := (t.map fun k => y k.toNat).sum
def Reach (tab : List TRw) (s z : List Int) : Prop := ∃ zs, runF tab s zs = some z
theorem Reach.refl {tab : List TRw} {s : List Int} : Reach tab s s := ⟨[], rfl⟩
theorem Reach.trans {tab : List TRw} {a b c : List Int} (h : Reach tab a b) (g : Reach tab b c) : Reach tab a c := by
  obtain ⟨zs, h⟩ := h
  obtain ⟨ys, g⟩ := g
  exact ⟨zs ++ ys, by rw [runF_app, h]; exact g⟩
theorem Reach.keep {n : Nat} {tab : List TRw} (tk : TabOk n tab) {s z : List Int} (hs : s.length = n) (hn : NonN s) (h : Reach tab s z) : z.length = n ∧ NonN z := by
  obtain ⟨zs, h⟩ := h
  exact runF_keep tk zs hs hn h
end L2
set_option Elab.async false
set_option linter.all false
set_option maxRecDepth 100000
set_option maxHeartbeats 4000000
namespace L2
open PySem PySem.Spec PyProof.Rows PySem.HErr
section
variable {fr : Fr} {Γ : Gam} {Θ : List Cel} {K : Vp → List Cel → Prop}
theorem kn_nrm {Γ' : Gam} {M : L2.St → Hp → Prop} (e : Γ = Γ') (k : Kn fr Γ' Θ M) : Kn fr Γ Θ M := e ▸ k
end
end L2
set_option Elab.async false
set_option linter.all false
set_option maxRecDepth 100000
set_option maxHeartbeats 4000000
namespace L2
open PySem PySem.Spec PyProof.Rows PySem.HErr
end L2
set_option Elab.async false
set_option linter.all false
set_option maxRecDepth 100000
set_option maxHeartbeats 4000000
namespace L2
open PySem PySem.Spec PyProof.Rows PySem.HErr
section
variable {X : Cx} {K : PySem.W.Frag} {e : Expr} {es : List Expr} {te : TE} {t : TA} {p : Pos}
theorem kpa_star (he : PE X e te) (hr : PA X es t) (hs : starEach (.Starred e p :: es) X.env = (true, eval e X.env) :: starEach es X.env := by rfl) (hK : X.K = K := by rfl) : PA X (.Starred e p :: es) (StX.tStar K te t) := hK ▸ StX.pa_star he hr hs
end
end L2
set_option Elab.async false
set_option linter.all false
set_option maxRecDepth 100000
set_option maxHeartbeats 4000000
namespace L2
open PySem PySem.Spec PyProof.Rows PySem.HErr
open TL
/-- C.m is a staticmethod: its record at p, its def at g -/
structure SMet (K : PySem.W.Frag) (C : Addr) (m : Str) (p g : Addr) : Prop where
  at_ : PySem.W.findCls K (.ref C) (.type "type") m = some (.get (.builtin "staticmethod.__get__") (.ref p) .none (.ref C))
  rc : ∃ rest, PySem.W.recIn K p "staticmethod" = some (.ref g :: rest)
  kp : PySem.W.keepIn K (.ref g) = true
structure SrcS (K : PySem.W.Frag) (C : Addr) (m qual : Str) (st : Stmt) (ps : List Str) : Prop where
  ex : ∃ p f fd, FunA K m qual st f fd ∧ ClX.CRead K C (.type "type") ∧ SMet K C m p f ∧ Binds K fd ps []
structure DefS (P : Program) (w : World) (K : PySem.W.Frag) (mg : Str → Option Value) (base : Heap) (CX : CXT) (k : Nat) (C : Addr) (m : Str) (ps : List Str) (sp : Sp) : Prop where
  ex : ∃ p f fd, LkF K f fd ∧ ClX.CRead K C (.type "type") ∧ SMet K C m p f ∧ Binds K fd ps [] ∧ FnOk P w K mg base CX k f fd ps sp
section
variable {P : Program} {w : World} {K : PySem.W.Frag} {mg : Str → Option Value} {base : Heap} {CX : CXT} {m qual : Str} {C : Addr} {st : Stmt} {N ps : List Str} {k j : Nat} {sp : Sp}
theorem DefS.mono (D : DefS P w K mg base CX j C m ps sp) (h : j ≤ k) : DefS P w K mg base CX k C m ps sp := by
  obtain ⟨p, f, fd, h1, h2, h3, h4, h5⟩ := D.ex
  exact ⟨p, f, fd, h1, h2, h3, h4, h5.mono h⟩
theorem SrcS.okX (F : SrcS K C m qual st ps) (S : FnScope N ps (defScope st)) (len : ∀ vs H Q E, sp vs H Q E → vs.length = ps.length)
    (hbody : ∀ (f : Addr) (cdv : Value) (A : Around) (outer : List Env) (s : Shared) (H : Hp) (vs : List V) (Q : VK) (E : XK), Room k (A.deeper (envOfC qual (defScope st) s.heap.objs.size f cdv)) → sp vs H Q E →
      ∃ t, PSs (cxOf (L2.CX P w) P w K mg base N qual (defScope st) f cdv A outer s H E) (defBody st) t ∧ t { nx := fun _ H' => Q .non H', rt := Q } (start N vs) H) : DefS P w K mg base (L2.CX P w) (k + 1) C m ps sp := by
  obtain ⟨p, f, fd, h1, h2, h3, h4⟩ := F.ex
  exact ⟨p, f, fd, h1.lk, h2, h3, h4, h1.okX S len (hbody f)⟩
theorem SrcS.okAX {pre : Pre} (F : SrcS K C m qual st ps) (S : FnScope N ps (defScope st)) (len : ∀ qs out err, pre qs out err → qs.length = ps.length)
    (hbody : ∀ (f : Addr) (cdv : Value) (A : Around) (outer : List Env) (s : Shared) (H : Hp) (E : XK) (qs : List Vp) (out : Vp → Prop) (err : Er → Prop), Room k (A.deeper (envOfC qual (defScope st) s.heap.objs.size f cdv)) → pre qs out err →
      ∃ t, PSs (cxOf (L2.CX P w) P w K mg base N qual (defScope st) f cdv A outer s H E) (defBody st) t ∧ ∀ fr Q, Ret fr Q out → Rse fr E err → Kn fr (envOf N qs) [] (t { nx := fun _ H' => Q .non H', rt := Q })) : DefS P w K mg base (L2.CX P w) (k + 1) C m ps (spA pre) := by
  refine F.okX S (fun vs H Q E h => ?_) (fun f cdv A outer s H vs Q E hr h => ?_)
  · obtain ⟨F, qs, out, err, _, h2, h3, _⟩ := h
    rw [← Paired.len h2]
    exact len _ _ _ h3
  · obtain ⟨F, qs, out, err, h1, h2, h3, h4, h5⟩ := h
    obtain ⟨t, ht, hk⟩ := hbody f cdv A outer s H E qs out err hr h3
    exact ⟨t, ht, hk _ Q h4.ret h5.rse _ F H (OkF.start h1) (env_start h2)⟩
theorem SrcS.okWX {α β : Type} {ef : HE → Er} {args : α → List Vp} {r : Rep β} {md : α → DM β} (F : SrcS K C m qual st ps) (S : FnScope N ps (defScope st)) (len : ∀ x, (args x).length = ps.length)
    (hbody : ∀ (f : Addr) (cdv : Value) (A : Around) (outer : List Env) (s : Shared) (H : Hp) (E : XK) (a : α) (Q : β → Prop) (X : HE → Prop), Room k (A.deeper (envOfC qual (defScope st) s.heap.objs.size f cdv)) → md a Q X →
      ∃ t, PSs (cxOf (L2.CX P w) P w K mg base N qual (defScope st) f cdv A outer s H E) (defBody st) t ∧ ∀ fr Qv, RetW fr Qv r Q → RseW fr E ef X → Kn fr (envOf N (args a)) [] (t { nx := fun _ H' => Qv .non H', rt := Qv })) : DefS P w K mg base (L2.CX P w) (k + 1) C m ps (spA (preW ef args r md)) :=
  F.okAX S (fun qs out err ⟨a, Q, X, e, _⟩ => by rw [e]; exact len a) fun f cdv A outer s H E qs out err hr ⟨a, Q, X, e1, h, e2, e3⟩ => by
    subst e1 e2 e3
    obtain ⟨t, ht, hk⟩ := hbody f cdv A outer s H E a Q X hr h
    exact ⟨t, ht, fun fr Qv hret hrse => hk fr Qv (fun y hy Θ => hret _ ⟨y, hy, rfl⟩ Θ) fun z hz Γ Θ => kr_E hrse ⟨z, hz, rfl⟩⟩
end
section
variable {fr : Fr} {Γ : Gam} {Θ : List Cel} {F H : Hp} {K : Vp → List Cel → Prop}
theorem spl_mem {S : List Nat} : ∀ (l : List Nat) (k : Nat) (acc : List Nat), ∀ p ∈ spl S k acc l, ∀ c ∈ p, c ∈ acc ∨ c ∈ l
  | [], k, acc, p, hp, c, hc => by
    rw [spl_nil] at hp
    rw [List.mem_singleton.mp hp] at hc
    exact .inl hc
  | d :: r, k + 1, acc, p, hp, c, hc => by
    rcases spl_mem r k acc p hp c hc with q | q
    · exact .inl q
    · exact .inr (List.mem_cons_of_mem _ q)
  | d :: r, 0, acc, p, hp, c, hc => by
    cases e : pre S (d :: r) with
    | true =>
      rw [spl_hit e] at hp
      rcases List.mem_cons.mp hp with q | q
      · rw [q] at hc; exact .inl hc
      · rcases spl_mem r _ _ p q c hc with q | q
        · cases q
        · exact .inr (List.mem_cons_of_mem _ q)
    | false =>
      rw [spl_miss e] at hp
      rcases spl_mem r _ _ p hp c hc with q | q
      · rcases List.mem_append.mp q with q | q
        · exact .inl q
        · rw [List.mem_singleton.mp q]; exact .inr (List.mem_cons_self ..)
      · exact .inr (List.mem_cons_of_mem _ q)
theorem spl_asc {x y : Str} (hy : (y.length == 0) = false) (ax : Asc x) (ay : Asc y) : ∀ z ∈ Txt.split x y, Asc z := fun z hz c hc => by
  have ne : tl y ≠ [] := fun e => by
    rw [len0_tl y |>.mpr e] at hy
    cases hy
  have kd : ¬ Builtin.Str.strKind x < Builtin.Str.strKind y := kind_ok (by
    rw [← Array.all_toList, List.all_eq_true]
    exact fun d hd => by
      have := ay d hd
      exact decide_eq_true (by omega))
  have e := split_spl x y ne kd
  have hm : tl z ∈ spl (tl y) 0 [] (tl x) := by rw [← e]; exact List.mem_map.mpr ⟨z, hz, rfl⟩
  rcases spl_mem _ _ _ _ hm c hc with q | q
  · cases q
  · exact ax c q
theorem pvs_strs {F : Hp} : ∀ {xs : List Str}, (∀ z ∈ xs, Asc z ∧ z.length ≤ big) → PVs yS F (xs.map V.str) xs
  | [], _ => .nil
  | z :: xs, h => .cons ⟨⟨rfl, (h z (List.mem_cons_self ..)).1⟩, (h z (List.mem_cons_self ..)).2⟩ (pvs_strs fun y hy => h y (List.mem_cons_of_mem _ hy))
theorem my_split {x y : Str} (hy : (y.length == 0) = false ∧ x.length < big ∧ (Txt.split x y).length ≤ big ∧ ∀ z ∈ Txt.split x y, z.length ≤ big) (k : K (iz (yL yS) (Txt.split x y)) Θ) : Mts fr Θ (fun x xs H Q => ∃ a b, x = .str a ∧ xs = [.str b] ∧ (b.length == 0) = false ∧ a.length + 2 ≤ sizeLine ∧ rNewStrs (Txt.split a b) H Q) (iz yS x) [iz yS y] K := fun F H v vs ok hv hps Q q => by
  obtain ⟨⟨rfl, ax⟩, lx⟩ := hv
  cases hps with
  | cons h1 hp => cases hp with
    | nil =>
      obtain ⟨⟨rfl, ay⟩, _⟩ := h1
      refine ⟨x, y, rfl, rfl, hy.1, Nat.le_trans (Nat.add_le_add_right lx 2) (by decide), fun p np => q.new k ok np ⟨⟨p, _, rfl, upd_same, pvs_strs fun z hz => ⟨spl_asc hy.1 ax ay z hz, hy.2.2.2 z hz⟩⟩, hy.2.2.1⟩⟩
/-- the signs of a text, each a text -/
def sgn (c : Nat) : Str := ⟨#[c]⟩
def sgnL (x : Str) : List Str := x.cps.toList.map sgn
theorem sgnL_len {x : Str} : (sgnL x).length = x.length := by
  unfold sgnL
  rw [List.length_map]
  rfl
theorem sgn_one {x : Str} (h : x.length = 1) : ∃ c, x = sgn c := by
  obtain ⟨⟨l⟩⟩ := x
  have h : l.length = 1 := h
  match l, h with
  | [c], _ => exact ⟨c, rfl⟩
theorem sgn_inj {c d : Nat} (h : sgn c = sgn d) : c = d := by
  unfold sgn at h
  injection h with h
  have := congrArg Array.toList h
  simpa using this
theorem sgnL_mem {c : Nat} {z : Str} : sgn c ∈ sgnL z ↔ c ∈ z.cps.toList := by
  unfold sgnL
  rw [List.mem_map]
  constructor
  · rintro ⟨d, hd, e⟩
    rw [← sgn_inj e]; exact hd
  · exact fun h => ⟨c, h, rfl⟩
theorem wi_str {te : TE} {K : List Vp → List Cel → Prop} (w : We fr Γ Θ te fun p Θ1 => ∃ x : Str, p = iz yS x ∧ ((sgnL x).length ≤ big → K ((sgnL x).map (iz yS)) Θ1)) : Wi fr Γ Θ (iStr te) K := fun σ F H ok env R q =>
  w σ F H ok env _ fun p Θ1 ⟨x, e, k⟩ v F1 H1 s1 ok1 hp => by
    subst e
    obtain ⟨⟨rfl, ax⟩, lx⟩ := hp
    refine ⟨x, rfl, q _ Θ1 (k (by rw [sgnL_len]; exact lx)) _ F1 H1 s1 ok1 fun F2 H2 s2 fh => ⟨fun i p hi => ?_, ?_⟩⟩
    · obtain ⟨z, hz, rfl⟩ := get_izs hi
      unfold sgnL at hz
      rw [List.getElem?_map] at hz
      obtain ⟨c, hc, rfl⟩ := Option.map_eq_some_iff.mp hz
      have hlt := (List.getElem?_eq_some_iff.mp hc).1
      refine ⟨by rw [Array.length_toList] at hlt; exact hlt, fun y H3 ⟨e1, d, hd, e2⟩ => ?_⟩
      subst e1 e2
      have hcd : c = d := by
        rw [Array.getElem?_toList] at hc
        rw [hc] at hd
        exact Option.some.inj hd
      subst hcd
      refine ⟨F2, Same.refl _, Same.refl _, fh, Newer.refl _ _, ⟨⟨rfl, fun b hb => ?_⟩, by show 1 ≤ big; decide⟩⟩
      have hb : b ∈ [c] := hb
      rw [List.mem_singleton.mp hb]
      exact ax c (List.mem_of_getElem? hc)
    · show x.cps.size ≤ ((sgnL x).map (iz yS)).length
      rw [List.length_map, sgnL_len]
      exact Nat.le_refl _
theorem oy_ninG {x y : Str} (h : x.length = 1) (k : K (iz zB (!decide (x ∈ sgnL y))) Θ) : Ops fr Θ (fun x y H Q => ∃ (c : Nat) (z : Str), x = .str ⟨#[c]⟩ ∧ y = .str z ∧ Q (.bl (!decide (c ∈ z.cps.toList))) H) (iz yS x) (iz yS y) K := fun F H v w ok hv hw Q q => by
  obtain ⟨⟨rfl, _⟩, _⟩ := hv
  obtain ⟨⟨rfl, _⟩, _⟩ := hw
  obtain ⟨c, rfl⟩ := sgn_one h
  refine ⟨c, y, rfl, rfl, ?_⟩
  have e : decide (c ∈ y.cps.toList) = decide (sgn c ∈ sgnL y) := by simp only [sgnL_mem]
  rw [e]
  exact q.go k ok rfl
theorem cutS_asc {z : Str} {lo hi : Option Int} (h : Asc z) : Asc (cutS z lo hi) := fun c hc => by
  have hc : c ∈ ((z.cps.toList.drop (HT.sIx z.length 0 lo)).take (HT.sIx z.length z.length hi - HT.sIx z.length 0 lo)) := by
    unfold cutS at hc
    simpa using hc
  exact h c (List.mem_of_mem_drop (List.mem_of_mem_take hc))
theorem sy_slS {x : Str} {lo hi : Option Int} (k : K (iz yS (cutS x lo hi)) Θ) : Sls fr Θ rSlS (iz yS x) lo hi K := fun F H v ok ⟨⟨e, ax⟩, lx⟩ Q q => by
  subst e
  exact ⟨x, rfl, Nat.le_trans lx (by decide), q.go k ok ⟨⟨rfl, cutS_asc ax⟩, Nat.le_trans (cutS_length x lo hi) lx⟩⟩
/-- int of a text -/
theorem cy_intS {x : Str} {n : Int} (hn : PySem.intText? x = some n) (hl : x.length ≤ 640) (k : K (iz zI n) Θ) : Cbs fr Θ (fun xs H Q => ∃ a n, xs = [.str a] ∧ PySem.intText? a = some n ∧ a.length ≤ 640 ∧ Q (.int n) H) [iz yS x] K := fun F H vs ok hps Q q => by
  cases hps with
  | cons h1 hp => cases hp with
    | nil =>
      obtain ⟨⟨rfl, _⟩, _⟩ := h1
      exact ⟨x, n, rfl, hn, hl, q.go k ok rfl⟩
end
end L2
set_option Elab.async false
set_option linter.all false
set_option maxRecDepth 100000
set_option maxHeartbeats 4000000
namespace L2
open PySem PySem.Spec PyProof.Rows PySem.HErr
/-- a thing whose value tells it without a heap -/
class FlatR {β : Type} (r : Rep β) : Prop where
  ok : ∀ {F F' : Hp} {v : V} {y : β}, r.p F' v y → r.p F v y
instance : FlatR zI := ⟨fun h => h⟩
instance : FlatR zB := ⟨fun h => h⟩
instance : FlatR yS := ⟨fun h => h⟩
end L2
set_option Elab.async false
set_option linter.all false
set_option maxRecDepth 100000
set_option maxHeartbeats 4000000
namespace L2
open PySem PySem.Spec PyProof.Rows PySem.HErr
open L2H (RoomH PinOk)
structure DefE (P : Program) (w : World) (K : PySem.W.Frag) (mg : Str → Option Value) (base : Heap) (CX : CXT) (k : Nat) (x : Str) (ps : List Str) (sp : Value → Option Addr → Addr → Sp) : Prop where
  ex : ∃ f fd, LkF K f fd ∧ mg x = some (.ref f) ∧ PySem.W.keepIn K (.ref f) = true ∧ Binds K fd ps [] ∧ (∀ cls d a vs H Q E, sp cls d a vs H Q E → vs.length = ps.length) ∧
    ∀ (A : Around) (outer : List Env) (s : Shared) (H : Hp) (args : Args) (us : List Value) (vs : List V) (Q : VK) (E : XK) (p : Addr × Obj) (cls : Value) (d : Option Addr), RoomH k A → PinOk outer H s p → Zc cls d p.2 → (∃ vs, p.2.data = .fields vs) →
      Env0 P w K mg base A outer s H → BindsTo s fd args (ps.zip us) → Vals vs us → sp cls d p.1 vs H Q E → codeAny (model P w) A (.call (.ref f) args) (CR CX0 outer P w H s Q E) s
theorem DefE.mono {P : Program} {w : World} {K : PySem.W.Frag} {mg : Str → Option Value} {base : Heap} {CX : CXT} {j k : Nat} {x : Str} {ps : List Str} {sp : Value → Option Addr → Addr → Sp} (D : DefE P w K mg base CX j x ps sp) (h : j ≤ k) : DefE P w K mg base CX k x ps sp := by
  obtain ⟨f, fd, h1, h2, h3, h4, h5, h6⟩ := D.ex
  exact ⟨f, fd, h1, h2, h3, h4, h5, fun A outer s H args us vs Q E p cls d hr => h6 A outer s H args us vs Q E p cls d (hr.mono h)⟩
end L2
set_option Elab.async false
set_option linter.all false
set_option maxRecDepth 100000
set_option maxHeartbeats 4000000
namespace L2
open PySem PySem.Spec PyProof.Rows PySem.HErr
theorem e_all {α : Type} {r : Rep α} [d : EDat r] {Kf : PySem.W.Frag} {F : Hp} {vs : List V} {xs : List α} (h : PVs r F vs xs) : DpAll Kf F vs (xs.map d.enc) ∧ PyData.canLayAll0 (xs.map d.enc) = true ∧ PyData.depthAll (xs.map d.enc) ≤ d.dep := by
  induction h with
  | nil => exact ⟨.nil, by simp only [List.map_nil, PyData.canLayAll0], by simp [PyData.depthAll]⟩
  | cons a _ ih => exact ⟨.cons (d.dp a) ih.1, by simp only [List.map_cons, PyData.canLayAll0, d.cl a, ih.2.1, Bool.and_self], by
      have h1 := d.dl a
      have h2 := ih.2.2
      simp only [List.map_cons, PyData.depthAll]
      omega⟩
instance (priority := 50) edL {α : Type} {r : Rep α} [d : EDat r] : EDat (yL r) := ⟨fun xs => .list (xs.map d.enc), d.dep + 1, fun ⟨⟨a, vs, h1, h2, h3⟩, _⟩ => by subst h1; exact .lst (SqL.of h2) (e_all h3).1, fun ⟨⟨a, vs, h1, h2, h3⟩, _⟩ => by simp only [PyData.canLay0]; exact (e_all (Kf := []) h3).2.1, fun ⟨⟨a, vs, h1, h2, h3⟩, _⟩ => by
  have := (e_all (Kf := []) h3).2.2
  simp only [PyData.depth]
  omega⟩
end L2
set_option Elab.async false
set_option linter.all false
set_option maxRecDepth 100000
set_option maxHeartbeats 4000000
namespace L2
open PySem PySem.Spec PyProof.Rows PySem.HErr
/-- what is no list stays -/
def NoL (F F' : Hp) : Prop := ∀ b o, F b = some o → (∀ us, o ≠ .lst us) → F' b = some o
class NoLst {β : Type} (r : Rep β) : Prop where
  ok : ∀ {F F' : Hp} {v : V} {y : β}, NoL F F' → r.p F v y → r.p F' v y
theorem TupK.nol {F F' : Hp} {a : Addr} {vs : List V} (e : NoL F F') (h : TupK F a vs) : TupK F' a vs := by
  obtain ⟨o, h, q⟩ := h
  exact ⟨o, e _ _ h (fun us hu => by cases hu), q⟩
theorem TupX.nol {n : Bool} {F F' : Hp} {a : Addr} {vs : List V} (e : NoL F F') (h : TupX n F a vs) : TupX n F' a vs := h.imp (fun ⟨h0, h⟩ => ⟨h0, e _ _ h (fun us hu => by cases hu)⟩) fun ⟨h0, h⟩ => ⟨h0, h.nol e⟩
theorem TupB.nol {n : Bool} {F F' : Hp} {a : Addr} {vs : List V} (e : NoL F F') (h : TupB n F a vs) : TupB n F' a vs := h.imp (fun h => e _ _ h (fun us hu => by cases hu)) fun ⟨h0, h⟩ => ⟨h0, h.nol e⟩
theorem PlanAt.nol {F F' : Hp} {C x : Addr} {d : PlanD} (h : PlanAt F C x d) (e : NoL F F') : PlanAt F' C x d := by
  obtain ⟨dx, tp, tb, td, tg, ts, kt, kg, h1, h2, h3, h4, h5, h6, h7, h8⟩ := h.ex
  have t : ∀ {b : Addr} {l : List V}, F b = some (.tup l) → F' b = some (.tup l) := fun q => e _ _ q (fun us hu => by cases hu)
  exact ⟨dx, tp, tb, td, tg, ts, kt, kg, e _ _ h1 (fun us hu => by cases hu), h2.nol e, t h3, e _ _ h4 (fun us hu => by cases hu), e _ _ h5 (fun us hu => by cases hu), h6.nol e, h7.keep fun _ _ => t, h8.keep fun _ _ => t⟩
instance {C : Addr} : NoLst (zPlan C) := ⟨fun e ⟨x, h1, h2, h3⟩ => ⟨x, h1, h2.nol e, h3⟩⟩
end L2
set_option Elab.async false
set_option linter.all false
set_option maxRecDepth 100000
set_option maxHeartbeats 4000000
namespace L2
open PySem PySem.Spec PyProof.Rows PySem.HErr
/-- the global x is the def y -/
structure SrcA (K : PySem.W.Frag) (mg : Str → Option Value) (x y : Str) (st : Stmt) (ps : List Str) : Prop where
  ex : ∃ f fd, FunA K y y st f fd ∧ mg x = some (.ref f) ∧ Binds K fd ps []
section
variable {P : Program} {w : World} {K : PySem.W.Frag} {mg : Str → Option Value} {base : Heap} {CX : CXT} {x y : Str} {st : Stmt} {N ps : List Str} {k : Nat} {sp : Sp} {pre : Pre}
theorem SrcA.ok (F : SrcA K mg x y st ps) (S : FnScope N ps (defScope st)) (len : ∀ vs H Q E, sp vs H Q E → vs.length = ps.length)
    (hbody : ∀ (f : Addr) (cdv : Value) (A : Around) (outer : List Env) (s : Shared) (H : Hp) (vs : List V) (Q : VK) (E : XK), Room k (A.deeper (envOfC y (defScope st) s.heap.objs.size f cdv)) → sp vs H Q E →
      ∃ t, PSs (cxOf CX0 P w K mg base N y (defScope st) f cdv A outer s H E).nox (defBody st) t ∧ t { nx := fun _ H' => Q .non H', rt := Q } (start N vs) H) : Def P w K mg base CX0 (k + 1) x ps sp := by
  obtain ⟨f, fd, h1, h2, h3⟩ := F.ex
  exact ⟨f, fd, h1.lk, h2, h1.kp, h3, h1.ok S len (hbody f)⟩
theorem SrcA.okX (F : SrcA K mg x y st ps) (S : FnScope N ps (defScope st)) (len : ∀ vs H Q E, sp vs H Q E → vs.length = ps.length)
    (hbody : ∀ (f : Addr) (cdv : Value) (A : Around) (outer : List Env) (s : Shared) (H : Hp) (vs : List V) (Q : VK) (E : XK), Room k (A.deeper (envOfC y (defScope st) s.heap.objs.size f cdv)) → sp vs H Q E →
      ∃ t, PSs (cxOf (L2.CX P w) P w K mg base N y (defScope st) f cdv A outer s H E) (defBody st) t ∧ t { nx := fun _ H' => Q .non H', rt := Q } (start N vs) H) : Def P w K mg base (L2.CX P w) (k + 1) x ps sp := by
  obtain ⟨f, fd, h1, h2, h3⟩ := F.ex
  exact ⟨f, fd, h1.lk, h2, h1.kp, h3, h1.okX S len (hbody f)⟩
theorem SrcA.okA (F : SrcA K mg x y st ps) (S : FnScope N ps (defScope st)) (len : ∀ qs out err, pre qs out err → qs.length = ps.length)
    (hbody : ∀ (f : Addr) (cdv : Value) (A : Around) (outer : List Env) (s : Shared) (H : Hp) (E : XK) (qs : List Vp) (out : Vp → Prop) (err : Er → Prop), Room k (A.deeper (envOfC y (defScope st) s.heap.objs.size f cdv)) → pre qs out err →
      ∃ t, PSs (cxOf CX0 P w K mg base N y (defScope st) f cdv A outer s H E).nox (defBody st) t ∧ ∀ fr Q, Ret fr Q out → Kn fr (envOf N qs) [] (t { nx := fun _ H' => Q .non H', rt := Q })) : Def P w K mg base CX0 (k + 1) x ps (spA pre) := by
  refine F.ok S (fun vs H Q E h => ?_) (fun f cdv A outer s H vs Q E hr h => ?_)
  · obtain ⟨F, qs, out, err, _, h2, h3, _⟩ := h
    rw [← Paired.len h2]
    exact len _ _ _ h3
  · obtain ⟨F, qs, out, err, h1, h2, h3, h4, h5⟩ := h
    obtain ⟨t, ht, hk⟩ := hbody f cdv A outer s H E qs out err hr h3
    exact ⟨t, ht, hk _ Q h4.ret _ F H (OkF.start h1) (env_start h2)⟩
theorem SrcA.okAX (F : SrcA K mg x y st ps) (S : FnScope N ps (defScope st)) (len : ∀ qs out err, pre qs out err → qs.length = ps.length)
    (hbody : ∀ (f : Addr) (cdv : Value) (A : Around) (outer : List Env) (s : Shared) (H : Hp) (E : XK) (qs : List Vp) (out : Vp → Prop) (err : Er → Prop), Room k (A.deeper (envOfC y (defScope st) s.heap.objs.size f cdv)) → pre qs out err →
      ∃ t, PSs (cxOf (L2.CX P w) P w K mg base N y (defScope st) f cdv A outer s H E) (defBody st) t ∧ ∀ fr Q, Ret fr Q out → Rse fr E err → Kn fr (envOf N qs) [] (t { nx := fun _ H' => Q .non H', rt := Q })) : Def P w K mg base (L2.CX P w) (k + 1) x ps (spA pre) := by
  refine F.okX S (fun vs H Q E h => ?_) (fun f cdv A outer s H vs Q E hr h => ?_)
  · obtain ⟨F, qs, out, err, _, h2, h3, _⟩ := h
    rw [← Paired.len h2]
    exact len _ _ _ h3
  · obtain ⟨F, qs, out, err, h1, h2, h3, h4, h5⟩ := h
    obtain ⟨t, ht, hk⟩ := hbody f cdv A outer s H E qs out err hr h3
    exact ⟨t, ht, hk _ Q h4.ret h5.rse _ F H (OkF.start h1) (env_start h2)⟩
variable {α β : Type} {ef : HE → Er} {args : α → List Vp} {r : Rep β} {md : α → DM β}
theorem SrcA.okW (F : SrcA K mg x y st ps) (S : FnScope N ps (defScope st)) (len : ∀ x, (args x).length = ps.length)
    (hbody : ∀ (f : Addr) (cdv : Value) (A : Around) (outer : List Env) (s : Shared) (H : Hp) (E : XK) (a : α) (Q : β → Prop) (X : HE → Prop), Room k (A.deeper (envOfC y (defScope st) s.heap.objs.size f cdv)) → md a Q X →
      ∃ t, PSs (cxOf CX0 P w K mg base N y (defScope st) f cdv A outer s H E).nox (defBody st) t ∧ ∀ fr Qv, RetW fr Qv r Q → Kn fr (envOf N (args a)) [] (t { nx := fun _ H' => Qv .non H', rt := Qv })) : Def P w K mg base CX0 (k + 1) x ps (spA (preW ef args r md)) :=
  F.okA S (fun qs out err ⟨a, Q, X, e, _⟩ => by rw [e]; exact len a) fun f cdv A outer s H E qs out err hr ⟨a, Q, X, e1, h, e2, e3⟩ => by
    subst e1 e2 e3
    obtain ⟨t, ht, hk⟩ := hbody f cdv A outer s H E a Q X hr h
    exact ⟨t, ht, fun fr Qv hret => hk fr Qv fun y hy Θ => hret _ ⟨y, hy, rfl⟩ Θ⟩
theorem SrcA.okWX (F : SrcA K mg x y st ps) (S : FnScope N ps (defScope st)) (len : ∀ x, (args x).length = ps.length)
    (hbody : ∀ (f : Addr) (cdv : Value) (A : Around) (outer : List Env) (s : Shared) (H : Hp) (E : XK) (a : α) (Q : β → Prop) (X : HE → Prop), Room k (A.deeper (envOfC y (defScope st) s.heap.objs.size f cdv)) → md a Q X →
      ∃ t, PSs (cxOf (L2.CX P w) P w K mg base N y (defScope st) f cdv A outer s H E) (defBody st) t ∧ ∀ fr Qv, RetW fr Qv r Q → RseW fr E ef X → Kn fr (envOf N (args a)) [] (t { nx := fun _ H' => Qv .non H', rt := Qv })) : Def P w K mg base (L2.CX P w) (k + 1) x ps (spA (preW ef args r md)) :=
  F.okAX S (fun qs out err ⟨a, Q, X, e, _⟩ => by rw [e]; exact len a) fun f cdv A outer s H E qs out err hr ⟨a, Q, X, e1, h, e2, e3⟩ => by
    subst e1 e2 e3
    obtain ⟨t, ht, hk⟩ := hbody f cdv A outer s H E a Q X hr h
    exact ⟨t, ht, fun fr Qv hret hrse => hk fr Qv (fun y hy Θ => hret _ ⟨y, hy, rfl⟩ Θ) fun z hz Γ Θ => kr_E hrse ⟨z, hz, rfl⟩⟩
end
end L2
set_option Elab.async false
set_option linter.all false
set_option maxRecDepth 100000
set_option maxHeartbeats 4000000
namespace L2
open PySem PySem.Spec PyProof.Rows PySem.HErr
end L2
set_option Elab.async false
set_option linter.all false
set_option maxRecDepth 100000
set_option maxHeartbeats 4000000
namespace L2
open PySem PySem.Spec PyProof.Rows PySem.HErr
def SOk (z : Str) : Prop := Asc z ∧ z.length ≤ big
def KVk {α : Type} (r : Rep α) (F : Hp) (kvs : List (Key × V)) (rows : List (Str × α)) : Prop := KVs r F kvs rows ∧ ∀ x ∈ rows, SOk x.1
theorem KVk.mono {α : Type} {r : Rep α} {F F' : Hp} {kvs : List (Key × V)} {rows : List (Str × α)} (h : KVk r F kvs rows) (e : Same F F') : KVk r F' kvs rows := ⟨h.1.mono e, h.2⟩
theorem KVk.len {α : Type} {r : Rep α} {F : Hp} {kvs : List (Key × V)} {rows : List (Str × α)} (h : KVk r F kvs rows) : kvs.length = rows.length := Paired.len h.1
theorem SOk.of {F : Hp} {v : V} {z : Str} (h : yS.p F v z) : SOk z := ⟨h.1.2, h.2⟩
theorem KVk.put {α : Type} {r : Rep α} {F : Hp} {kvs : List (Key × V)} {rows : List (Str × α)} {n : Str} {x : α} {u : V} (h : KVk r F kvs rows) (hu : r.p F u x) (hn : SOk n) : KVk r F (putK kvs (Sum.inr n) u) (putR rows n x) := ⟨h.1.put hu, fun y hy => by
  unfold putR at hy
  split at hy
  · obtain ⟨z, hz, e⟩ := List.mem_map.mp hy
    subst e
    have := h.2 z hz
    split
    · exact this
    · exact this
  · rcases List.mem_append.mp hy with hy | hy
    · exact h.2 y hy
    · rw [List.mem_singleton.mp hy]
      exact hn⟩
end L2
set_option Elab.async false
set_option linter.all false
set_option maxRecDepth 100000
set_option maxHeartbeats 4000000
namespace L2
open PySem PySem.Spec PyProof.Rows PySem.HErr
end L2
set_option Elab.async false
set_option linter.all false
set_option maxRecDepth 100000
set_option maxHeartbeats 4000000
namespace L2
open PySem PySem.Spec PyProof.Rows PySem.HErr
end L2
namespace L2
open PySem PySem.Spec PyProof.Rows PySem.HErr
instance ed5 {α β γ δ ε : Type} {r : Rep α} {s : Rep β} {t : Rep γ} {u : Rep δ} {o : Rep ε} [d : EDat r] [e : EDat s] [f : EDat t] [g : EDat u] [i : EDat o] : EDat (z5 r s t u o) := ⟨fun x => .tuple [d.enc x.1, e.enc x.2.1, f.enc x.2.2.1, g.enc x.2.2.2.1, i.enc x.2.2.2.2], max (max (max d.dep e.dep) (max f.dep g.dep)) i.dep + 1,
  fun ⟨a, v1, v2, v3, v4, v5, h1, h2, h3, h4, h5, h6, h7⟩ => by subst h1; exact .tup (SqT.of h2) (.cons (d.dp h3) (.cons (e.dp h4) (.cons (f.dp h5) (.cons (g.dp h6) (.cons (i.dp h7) .nil))))),
  fun ⟨a, v1, v2, v3, v4, v5, h1, h2, h3, h4, h5, h6, h7⟩ => by simp only [PyData.canLay0, PyData.canLayAll0, d.cl h3, e.cl h4, f.cl h5, g.cl h6, i.cl h7, Bool.and_self],
  fun ⟨a, v1, v2, v3, v4, v5, h1, h2, h3, h4, h5, h6, h7⟩ => by
    have := d.dl h3
    have := e.dl h4
    have := f.dl h5
    have := g.dl h6
    have := i.dl h7
    simp only [PyData.depth, PyData.depthAll]
    omega⟩
instance ed1 {α : Type} {r : Rep α} [d : EDat r] : EDat (z1 r) := ⟨fun x => .tuple [d.enc x], d.dep + 1, fun ⟨a, v1, h1, h2, h3⟩ => by subst h1; exact .tup (SqT.of h2) (.cons (d.dp h3) .nil),
  fun ⟨a, v1, h1, h2, h3⟩ => by simp only [PyData.canLay0, PyData.canLayAll0, d.cl h3, Bool.and_self],
  fun ⟨a, v1, h1, h2, h3⟩ => by
    have := d.dl h3
    simp only [PyData.depth, PyData.depthAll]
    omega⟩
end L2
set_option Elab.async false
set_option linter.all false
set_option maxRecDepth 100000
set_option maxHeartbeats 4000000
namespace L2
open PySem PySem.Spec PyProof.Rows PySem.HErr
end L2
namespace L2
open PySem PySem.Spec PyProof.Rows PySem.HErr
end L2
namespace L2
open PySem PySem.Spec PyProof.Rows PySem.HErr
end L2
namespace L2
open PySem PySem.Spec PyProof.Rows PySem.HErr
end L2
set_option Elab.async false
set_option linter.all false
set_option maxRecDepth 100000
set_option maxHeartbeats 4000000
namespace L2
open PySem PySem.Spec PyProof.Rows PySem.HErr
section
variable {M : Model} {A : Around} {E : Value → Shared → Prop} {s : Shared} {env : Env}
theorem each_cap {x : Str} {px : Pos} {ps : List Pattern} {u : Value} {us : List Value} {Q : Option (List (Str × Value)) → Shared → Prop}
    (h : wpAny M A (matchEach ps env us) (fun r s1 => match r with | none => Q none s1 | some more => Q (some ((x, u) :: more)) s1) E s) : wpAny M A (matchEach (.MatchAs none (some x) px :: ps) env (u :: us)) Q E s := by
  refine wpAny_matchEach_cons (wpAny_matchPattern_Capture ?_)
  exact h
end
section
variable {X : Cx} {pins : List (Addr × Obj)} {σ : L2.St} {H : Hp} {s : Shared} {E : Value → Shared → Prop} {A : Around} {M : Model}
/-- a captured name is stored -/
theorem cap_store {i : Nat} {x : Str} {v : V} {u : Value} {ts : List (Value → Sem Unit)} {us : List Value} {Q : Unit → Shared → Prop} (I : Inv X pins σ H s) (hN : X.N.Nodup) (hi : X.N[i]? = some x) (hx : X.env.scope.names.lookup x = some .local) (r : RelV v u)
    (h : ∀ s', Inv X pins (σ.set i (some v)) H s' → wpAny M A (assignInOrder ts us) Q E s') : wpAny M A (assignInOrder ((fun z => bindName X.env x z) :: ts) (u :: us)) Q E s :=
  wpAny_assignInOrder_more (wpAny_bindName (store_ok I hN hi (.inl hx) r (fun s2 I2 => h s2 I2) (.inr hx)))
/-- what is behind the captures of a case -/
theorem unp_star {l : Addr} {items : Array Value} {n : Nat} {Q : List Value → Shared → Prop} (hh : X.A.handled = none) (hl : s.heap.IsList l items) (hn : n ≤ items.size) (hz : items.size ≤ sizeLine)
    (hq : ∀ (h1 : Heap) (tk : Nat), (∀ b o, s.heap.get? b = some o → h1.get? b = some o) → Q (items.toList.take n ++ [.ref h1.objs.size]) { s with heap := h1.push { cls := .type "list", data := .seq (items.toList.drop n).toArray }, toks := tk }) :
    wpAny (model X.prog X.w) X.A (unpackItems (.ref l) (n + 1) (some n)) Q E s := by
  have ne : l ≠ s.heap.objs.size := by
    obtain ⟨o, ho, _⟩ := hl
    exact Nat.ne_of_lt (Heap.lt_size ho)
  unfold unpackItems
  refine wpAny_bind ?_
  unfold notIterableAtAll
  refine wpAny_bind (wpAny_specialOf hl.typeIs slot_list_iter.lookup (wpAny_pure ?_))
  rw [if_neg Bool.false_ne_true]
  refine wpAny_bind (wpAny_holding (wpAny_pyIter_list hl (wpAny_bind (wpAny_holding (PySem.W.kun_draw ne n 0 _ _ ⟨_, Heap.get?_push_size _ rfl, rfl, rfl⟩ (hl.push _) (by omega) fun h1 it1 e1 => ?_)))))
  have l1 : h1.IsList l items := (hl.push _).extBut e1.extBut ne
  rw [Nat.zero_add] at it1
  have lt1 : s.heap.objs.size < h1.objs.size := by
    obtain ⟨o, ho, _⟩ := it1
    exact Heap.lt_size ho
  have lt2 : l < h1.objs.size := by
    obtain ⟨o, ho, _⟩ := l1
    exact Heap.lt_size ho
  rw [List.drop_zero]
  have tl : (items.toList.take n).length = n := by rw [List.length_take, Array.length_toList]; omega
  rw [if_neg (by rw [tl]; exact Nat.lt_irrefl n)]
  refine wpAny_bind (wpAny_holding (PySem.W.kun_collect (T := "list_iterator") (s := { s with heap := h1 }) (.inr (.inr (.inl rfl))) (Walks.list (A := X.A.in1) hh s.heap.objs.size l ne items) (fun j u st => st.1.typeIs) (k := n) hn ⟨it1, l1⟩ lt1 lt2 (fun h2 tk k2 => ?_) hz))
  have dl : (items.toList.drop n).length = items.size - n := by rw [List.length_drop, Array.length_toList]
  have z0 : n + 1 - 1 - n = 0 := by omega
  show wpAny _ _ (if (items.toList.drop n).length < n + 1 - 1 - n then _ else _) _ _ _
  rw [z0, if_neg (Nat.not_lt_zero _)]
  show wpAny _ _ (newList ((items.toList.drop n).take ((items.toList.drop n).length - 0)) >>= fun d => pure (items.toList.take n ++ [d] ++ (items.toList.drop n).drop ((items.toList.drop n).length - 0))) _ _ _
  rw [Nat.sub_zero, List.take_length, List.drop_length]
  refine wpAny_bind (wpAny_newList (wpAny_pure ?_) (by rw [dl]; exact Nat.le_trans (Nat.sub_le _ _) hz))
  rw [List.append_nil]
  refine hq h2 tk fun b o e => ?_
  have hb : b ≠ s.heap.objs.size := Nat.ne_of_lt (Heap.lt_size e)
  exact k2 b o hb (e1.extBut b o hb (Heap.get?_push_of_some _ e))
end
/-- match e: case [x, y, z] if g: body -/
def tMat3 (K : PySem.W.Frag) (te : TE) (i j k : Nat) (tg : TT) (tb : TS) : TS := fun D σ H => te σ H fun v H1 => ∃ a xs, v = .ref a ∧ SqL K H1 a xs ∧
  (∀ u1 u2 u3, xs = [u1, u2, u3] → tg (((σ.set i (some u1)).set j (some u2)).set k (some u3)) H1 fun b H2 => if b = true then tb D (((σ.set i (some u1)).set j (some u2)).set k (some u3)) H2 else D.nx (((σ.set i (some u1)).set j (some u2)).set k (some u3)) H2) ∧
  (xs.length ≠ 3 → D.nx σ H1)
/-- match e: case [x, y, *z] if g: body -/
def tMat2s (K : PySem.W.Frag) (te : TE) (i j k : Nat) (tg : TT) (tb : TS) : TS := fun D σ H => te σ H fun v H1 => ∃ a xs, v = .ref a ∧ SqL K H1 a xs ∧
  (∀ u1 u2 r p, xs = u1 :: u2 :: r → H1 p = none → tg (((σ.set i (some u1)).set j (some u2)).set k (some (.ref p))) (upd H1 p (.lst r)) fun b H2 => if b = true then tb D (((σ.set i (some u1)).set j (some u2)).set k (some (.ref p))) H2 else D.nx (((σ.set i (some u1)).set j (some u2)).set k (some (.ref p))) H2) ∧
  (xs.length < 2 → D.nx σ H1)
section
variable {X : Cx} {i j k : Nat} {x y z : Str} {px py pz pp pos : Pos} {e g : Expr} {body : List Stmt} {te : TE} {tg : TT} {tb : TS}
theorem ps_mat3 (hc : X.calm = true) (hN : X.N.Nodup) (hi : X.N[i]? = some x) (hj : X.N[j]? = some y) (hk : X.N[k]? = some z) (lx : X.env.scope.names.lookup x = some .local) (ly : X.env.scope.names.lookup y = some .local) (lz : X.env.scope.names.lookup z = some .local)
    (he : PE X e te) (hg : PT X g tg) (hb : PSs X body tb) :
    PS X (.Match e [⟨.MatchSequence [.MatchAs none (some x) px, .MatchAs none (some y) py, .MatchAs none (some z) pz] pp, some g, body⟩] pos) (tMat3 X.K te i j k tg tb) := by
  refine ⟨fun pins s σ H D I h => ?_⟩
  refine wpAny_Match (thn (he.run pins s σ H _ I h) fun u s1 ⟨v, H1, I1, r1, a, xs, ev, hsq, q1, q2⟩ => ?_)
  subst ev
  obtain rfl : u = Value.ref a := r1
  obtain ⟨its, rv, ⟨o, n0, ho, hcl, hdi, hda⟩, hz⟩ := I1.list hsq
  have hl : s1.heap.IsList a its.toArray := ⟨o, ho, hcl, n0, hda⟩
  have len := rv.length
  have line : sizeLine < 2 ^ 63 := by rw [sizeLine_eq]; decide
  have fit : ((its.toArray.size : Nat) : Int) < 2 ^ 63 := by
    have : its.toArray.size < 2 ^ 63 := by
      rw [List.size_toArray]
      omega
    exact_mod_cast this
  refine wpAny_matchCases_cons ?_
  by_cases h3 : xs.length = 3
  · obtain ⟨u1, u2, u3, rfl⟩ : ∃ u1 u2 u3, xs = [u1, u2, u3] := by
      match xs, h3 with
      | [u1, u2, u3], _ => exact ⟨u1, u2, u3, rfl⟩
    obtain ⟨w1, w2, w3, rfl, c1, c2, c3⟩ : ∃ w1 w2 w3, its = [w1, w2, w3] ∧ RelV u1 w1 ∧ RelV u2 w2 ∧ RelV u3 w3 := by
      cases rv with
      | cons c1 rv => cases rv with
        | cons c2 rv => cases rv with
          | cons c3 rv =>
            cases rv
            exact ⟨_, _, _, rfl, c1, c2, c3⟩
    refine matchSeq_list_hit hl fit rfl ?_
    refine PySem.W.kun_itemsOf (s := { s1 with toks := s1.toks + 1 + 1 }) (items := #[w1, w2, w3]) (I1.ok.hd hc) hl fun h' hx => ?_
    have I2 : Inv X pins σ H1 { s1 with toks := s1.toks + 1 + 1, heap := h' } := I1.kept fun b o e => hx b o (Nat.ne_of_lt (Heap.lt_size e)) e
    refine each_cap (each_cap (each_cap (wpAny_matchEach_nil ?_)))
    show wpAny _ _ (assignInOrder [fun z => bindName X.env x z, fun z => bindName X.env y z, fun w => bindName X.env z w] [w1, w2, w3]) _ _ _
    refine cap_store I2 hN hi lx c1 fun s2 I3 => cap_store I3 hN hj ly c2 fun s3 I4 => cap_store I4 hN hk lz c3 fun s4 I5 => wpAny_assignInOrder_none ?_
    refine thn (hg.run pins s4 _ H1 _ I5 (q1 u1 u2 u3 rfl)) fun b s5 ⟨H2, I6, q3⟩ => ?_
    cases b with
    | true => exact hb.run pins s5 _ H2 D I6 q3
    | false => exact wpAny_matchCases_nil ⟨_, H2, I6, q3⟩
  · refine matchSeq_list_miss hl fit (by rw [List.size_toArray, ← len]; exact h3) (wpAny_matchCases_nil ⟨σ, H1, I1.tok _, q2 h3⟩)
theorem ps_mat2s (hc : X.calm = true) (hN : X.N.Nodup) (hi : X.N[i]? = some x) (hj : X.N[j]? = some y) (hk : X.N[k]? = some z) (lx : X.env.scope.names.lookup x = some .local) (ly : X.env.scope.names.lookup y = some .local) (lz : X.env.scope.names.lookup z = some .local)
    (he : PE X e te) (hg : PT X g tg) (hb : PSs X body tb) :
    PS X (.Match e [⟨.MatchSequence [.MatchAs none (some x) px, .MatchAs none (some y) py, .MatchStar (some z) pz] pp, some g, body⟩] pos) (tMat2s X.K te i j k tg tb) := by
  refine ⟨fun pins s σ H D I h => ?_⟩
  refine wpAny_Match (thn (he.run pins s σ H _ I h) fun u s1 ⟨v, H1, I1, r1, a, xs, ev, hsq, q1, q2⟩ => ?_)
  subst ev
  obtain rfl : u = Value.ref a := r1
  obtain ⟨its, rv, ⟨o, n0, ho, hcl, hdi, hda⟩, hz⟩ := I1.list hsq
  have hl : s1.heap.IsList a its.toArray := ⟨o, ho, hcl, n0, hda⟩
  have len := rv.length
  have line : sizeLine < 2 ^ 63 := by rw [sizeLine_eq]; decide
  have fit : ((its.toArray.size : Nat) : Int) < 2 ^ 63 := by
    have : its.toArray.size < 2 ^ 63 := by
      rw [List.size_toArray]
      omega
    exact_mod_cast this
  refine wpAny_matchCases_cons ?_
  by_cases h3 : xs.length < 2
  · refine PySem.W.kun_fewL (i := 2) hl fit rfl (show 3 > 1 by decide) (by rw [List.size_toArray, ← len]; show _ < 3; omega) (wpAny_matchCases_nil ⟨σ, H1, I1.tok _, q2 h3⟩)
  · obtain ⟨u1, u2, r, rfl⟩ : ∃ u1 u2 r, xs = u1 :: u2 :: r := by
      match xs, h3 with
      | u1 :: u2 :: r, _ => exact ⟨u1, u2, r, rfl⟩
      | [u], h3 => exact absurd (by simp) h3
      | [], h3 => exact absurd (by simp) h3
    obtain ⟨w1, w2, ws, rfl, c1, c2, c3⟩ : ∃ w1 w2 ws, its = w1 :: w2 :: ws ∧ RelV u1 w1 ∧ RelV u2 w2 ∧ Vals r ws := by
      cases rv with
      | cons c1 rv => cases rv with
        | cons c2 rv => exact ⟨_, _, _, rfl, c1, c2, rv⟩
    refine PySem.W.kun_seqL (i := 2) hl fit rfl rfl rfl (show 3 > 1 by decide) (by rw [List.size_toArray]; show 3 ≤ _ + 1 + 1 + 1; omega) ?_
    refine unp_star (X := X) (n := 2) (s := { s1 with toks := s1.toks + 1 + 1 }) (I1.ok.hd hc) hl (by rw [List.size_toArray]; show 2 ≤ _ + 1 + 1; omega) (by rw [List.size_toArray, ← len]; exact hz) fun h' tk hx => ?_
    have I2 : Inv X pins σ H1 { s1 with toks := tk, heap := h' } := I1.kept hx
    have hn : H1 h'.objs.size = none := I2.hok.fresh (Nat.le_refl _)
    have I3 : Inv X pins σ (upd H1 h'.objs.size (.lst r)) { s1 with toks := tk, heap := h'.push { cls := .type "list", data := .seq ws.toArray } } := by
      refine I2.laid (t' := tk) (fun b o e => Heap.get?_push_of_some _ e) (Nat.le_refl _) (show ObjOk X.prog X.w _ _ _ (.lst r) from ⟨?_, ws, 0, c3, Heap.get?_push_size _ rfl⟩)
      simp only [List.length_cons] at hz
      omega
    show wpAny _ _ (matchEach [.MatchAs none (some x) px, .MatchAs none (some y) py, .MatchStar (some z) pz] X.env [w1, w2, .ref h'.objs.size]) _ _ _
    refine each_cap (each_cap (PySem.W.kun_each (wpAny_matchEach_nil ?_)))
    show wpAny _ _ (assignInOrder [fun z => bindName X.env x z, fun z => bindName X.env y z, fun w => bindName X.env z w] [w1, w2, .ref h'.objs.size]) _ _ _
    refine cap_store I3 hN hi lx c1 fun s2 I4 => cap_store I4 hN hj ly c2 fun s3 I5 => cap_store (v := .ref h'.objs.size) I5 hN hk lz rfl fun s4 I6 => wpAny_assignInOrder_none ?_
    refine thn (hg.run pins s4 _ _ _ I6 (q1 u1 u2 r h'.objs.size rfl hn)) fun b s5 ⟨H2, I7, q3⟩ => ?_
    cases b with
    | true => exact hb.run pins s5 _ H2 D I7 q3
    | false => exact wpAny_matchCases_nil ⟨_, H2, I7, q3⟩
end
end L2
set_option Elab.async false
set_option linter.all false
set_option maxRecDepth 100000
set_option maxHeartbeats 4000000
namespace L2
open PySem PySem.Spec PyProof.Rows PySem.HErr
/-- the list at a as it stands at each turn, each item in a new pair with the count from c on -/
def ItS (K : PySem.W.Frag) (a : Addr) (c : Int) : It :=
  ⟨fun i H => ∃ (xs : List V) (x : V), SqL K H a xs ∧ xs[i]? = some x, fun i H v H' => ∃ T x, v = .ref T ∧ H T = none ∧ H' = upd H T (.tup [.int (c + (i : Nat)), x]) ∧ ∀ xs, SqL K H a xs → xs[i]? = some x, fun i H => ∃ xs : List V, SqL K H a xs ∧ xs.length ≤ i⟩
theorem turn_enumS {P : Program} {w : World} {K : PySem.W.Frag} {elts : List Expr} {kk : Nat} {tpos : Pos} (a e it : Addr) (c : Int) :
    Turn P w K (.Tuple elts kk tpos) (ItS K a c) [e, it] e (fun i h => (∃ old, IsEnum h e it (c + ((i : Nat) : Int)) old) ∧ h.IsListIter it a i ∧ e ≠ it) where
  mem := by simp
  obj := fun i h st b hb => by
    obtain ⟨⟨old, he⟩, ⟨o, ho, hc, hd⟩, _⟩ := st
    rcases List.mem_cons.mp hb with z | hb
    · rw [z]
      exact ⟨_, he, fun v q => nomatch q⟩
    · rw [List.mem_singleton.mp hb]
      exact ⟨o, ho, fun v q => by rw [hd] at q; cases q⟩
  keep := fun i h h' ⟨⟨old, he⟩, hi, hne⟩ k => ⟨⟨old, k e (by simp) _ he⟩, hi.at fun o q => k it (by simp) o q, hne⟩
  item := by
    intro X hP hw hK hc i pins s σ H E I hf st hg
    subst hP hw hK
    obtain ⟨⟨old, he⟩, hit, hne⟩ := st
    obtain ⟨xs, x, hq, hx⟩ := hg
    obtain ⟨its, rv, p, hz⟩ := I.list hq
    obtain ⟨u, hu, ru⟩ := rv.get hx
    have pl := p.isList
    have ea : e ≠ a := fun q => by
      obtain ⟨o, ho, hcl, _⟩ := pl
      rw [← q] at ho
      rw [show s.heap.get? e = some _ from he] at ho
      cases ho
      exact absurd (Value.type.inj hcl) (by decide)
    have ia : a ≠ it := fun q => by
      obtain ⟨o, ho, hcl, _⟩ := pl
      obtain ⟨o2, ho2, hcl2, _⟩ := hit
      rw [q] at ho
      rw [ho2] at ho
      cases ho
      rw [hcl2] at hcl
      exact absurd hcl (by decide)
    have hel : e < s.heap.objs.size := Heap.lt_size he
    have hil : it < s.heap.objs.size := by
      obtain ⟨_, q, _⟩ := hit
      exact Heap.lt_size q
    have lt : i < its.toArray.size := by
      rw [List.size_toArray]
      exact (List.getElem?_eq_some_iff.mp hu).1
    have hd : X.A.in1.handled = none := I.ok.hd hc
    refine wpAny_pyNext_enum_itemC (Draws.list (prog := X.prog) (w := X.w) (A := X.A.in1) hd it a ia its.toArray) he ⟨hit, pl⟩ lt hne (by simp [hne, ea]) fun x' h' tk hx' ho hst' hT hsz hk => ?_
    have ex : x' = u := by
      have h1 : its.toArray[i]? = some x' := hx'
      rw [List.getElem?_toArray, hu] at h1
      exact (Option.some.inj h1).symm
    subst ex
    refine ⟨_, rfl, wpAny_letOwnedTupleGo_enum (s := { s with heap := h', toks := tk + 1 }) ho fun h'' he' sb => ?_⟩
    have hT2 : h''.get? s.heap.objs.size = some { cls := .type "tuple", data := .seq #[.int (c + (i : Nat)) tk, x'] } := (sb.2 _ (Nat.ne_of_gt hel)).trans hT
    have new : ObjOk X.prog X.w (upd H s.heap.objs.size (.tup [.int (c + (i : Nat)), x])) h'' s.heap.objs.size (.tup [.int (c + (i : Nat)), x]) :=
      ⟨by show 2 ≤ sizeLine; decide, [.int (c + (i : Nat)) tk, x'], .cons ⟨_, rfl⟩ (.cons ru .nil), ⟨_, hT2, rfl, _, rfl⟩⟩
    have I1 : Inv X pins σ (upd H s.heap.objs.size (.tup [.int (c + (i : Nat)), x])) { s with heap := h'', toks := tk + 1 } :=
      I.turnedNew (ch := [e, it]) (fun b ob hb q => (sb.2 b (fun z => hb (by simp [z]))).trans (hk b ob (fun z => hb (by simp [z])) (fun z => hb (by simp [z])) q)) hf (Nat.le_refl _) new
    refine ⟨.ref s.heap.objs.size, _, I1, rfl, ⟨_, x, rfl, I.hok.fresh (Nat.le_refl _), rfl, fun ys hy => by rw [I.list_inj hy hq]; exact hx⟩, ⟨⟨x', ?_⟩, hst'.1.at fun o q => (sb.2 it (Ne.symm hne)).trans q, hne⟩, fun b hb => ?_⟩
    · rw [show c + ((i + 1 : Nat) : Int) = c + (i : Int) + 1 by omega]
      exact he'
    · have hb' : b < s.heap.objs.size := by
        rcases List.mem_cons.mp hb with z | hb
        · rw [z]; exact hel
        · rw [List.mem_singleton.mp hb]; exact hil
      rw [upd_ne (Nat.ne_of_lt hb')]
      exact (hf b hb).1
  done := by
    intro X hP hw hK hc i pins s σ H E I hf st hg
    subst hP hw hK
    obtain ⟨⟨old, he⟩, hit, hne⟩ := st
    obtain ⟨xs, hq, hx⟩ := hg
    obtain ⟨its, rv, p, hz⟩ := I.list hq
    obtain ⟨f0, f1, f2, f3, f4, f5⟩ := hf it (by simp)
    have hl := rv.length
    have pl := p.isList
    have ia : a ≠ it := fun q => by
      obtain ⟨o, ho, hcl, _⟩ := pl
      obtain ⟨o2, ho2, hcl2, _⟩ := hit
      rw [q] at ho
      rw [ho2] at ho
      cases ho
      rw [hcl2] at hcl
      exact absurd hcl (by decide)
    have hd : X.A.in1.handled = none := I.ok.hd hc
    unfold pyNext
    have hT : s.TypeIs (.ref e) "enumerate" := ⟨_, he, rfl⟩
    refine wpAny_bind (wpAny_attempt (wpAny_callSpecial?_slot (name := Str.ofString "__next__") hT F.slot_enumerate_next
      (wpAny_call_entry F.slot_enumerate_next hT F.entry_enumerate_next ?_ (F.args_enumerate_next_1 _))))
    show wpAny _ _ (field (.ref e) 2 >>= _) _ _ _
    refine wpAny_bind (wpAny_field he rfl (x := .ref it) rfl ?_)
    refine wpAny_bind (wpAny_nextOf_list_end hd hit pl (by rw [List.getElem?_toArray]; exact List.getElem?_eq_none_iff.mpr (by omega)) fun h' x he' hx' => ?_)
    obtain ⟨o, ho, hcl⟩ := hx'
    refine wpAny_bind (wpAny_isInstance (T := "StopIteration") (b := true) ⟨o, ho, hcl⟩ isSubtype_stop ?_)
    exact wpAny_pure ⟨rfl, I.turned (t' := s.toks) (fun b o hb q => he' b o hb q) f0 f1 f3 f4 f5⟩
  self := fun A i s Q E st h => let ⟨⟨_, he⟩, _⟩ := st; wpAny_pyIter_enum he h
def iEnumS (K : PySem.W.Frag) (c : Int) (te : TE) : TI := fun σ H R => te σ H fun v H1 => ∃ a xs, v = .ref a ∧ SqL K H1 a xs ∧ R (ItS K a c) H1
theorem callWith_tyKw {M : Model} {A : Around} {E : Value → Shared → Prop} {s : Shared} {pos : Pos} {T : String} {t : Sem Value} {keywords : List (Option Str × Sem Value)} {Q : Value → Shared → Prop} (hall : keywords.all (·.1.isSome) = true) (hkw : keywords.any (·.1.isNone) = false)
    (h : wpAny M A (spliced [(false, t)]) (fun vs s1 => wpAny M A (evalAll (keywords.map (·.2))) (fun kvs s2 => wpAny M A (call (.type T) vs ((keywords.filterMap (·.1)).zip kvs)) Q E s2) E s1) E s) :
    wpAny M A (callWith pos (.type T) [] [(false, t)] keywords) Q E s := by
  unfold callWith
  refine wpAny_bind (wpAny_holding (wpAny_mono (evalArgs_kwB (f := .type T) (Q := fun a s1 => wpAny M A (call (.type T) a.pos a.kw) Q E s1) hall h) (fun a s1 h1 => wpAny_bind (wpAny_standAt ?_)) fun _ _ z => z))
  simp only [hkw, List.any_cons, List.any_nil, Bool.or_false]
  refine wpAny_bind (wpAny_pure ?_)
  exact wpAny_bind (wpAny_mono h1 (fun r s2 hr => wpAny_bind (wpAny_holding (wpAny_point (wpAny_pure hr)))) fun _ _ z => z)
theorem pi_enumS {X : Cx} {c : Int} {e : Expr} {te : TE} {p pos tpos kp cp : Pos} {elts : List Expr} {kk : Nat} {j} (hc0 : -(2 ^ 63) ≤ c) (hc1 : c < 2 ^ 63) (hg : Gl X "enumerate") (hm : X.mg "enumerate" = none) (he : PE X e te) (hs : backTo pos (starEach [e] X.env) = [(false, eval e X.env)] := by rfl) :
    PI X (.Tuple elts kk tpos) (.Call (.Name "enumerate" p) [e] [⟨some "start", .Constant (.int c) j cp, kp⟩] pos) (iEnumS X.K c te) := by
  refine ⟨fun pins s σ H R I h => ?_⟩
  refine wpAny_Call_Name_kw (ld_blt I hg hm boot_enumerate ?_)
  rw [hs]
  refine callWith_tyKw rfl rfl (Calls.spliced_cons (thn (he.run pins s σ H _ I h) fun u s1 ⟨v, H1, I1, r1, a, xs, ev, hq, q⟩ => Calls.spliced_nil ?_))
  subst ev
  obtain rfl : u = Value.ref a := r1
  obtain ⟨its, rv, p', hz⟩ := I1.list hq
  refine kws_cons (kp := kp) (rest := []) (wpAny_Constant_int (kws_nil ?_))
  refine enum_begins_start (s := { s1 with toks := s1.toks + 1 }) (begins_list a its.toArray) p'.isList hc0 hc1 fun h' hen hit hsz hk => wpAny_pyIter_enum hen ?_
  have I2 : Inv X pins σ H1 { s1 with heap := h', toks := s1.toks + 1 } := I1.kept hk
  refine ⟨s1.heap.objs.size + 1, [s1.heap.objs.size + 1, s1.heap.objs.size], _, _, H1, rfl, I2, turn_enumS a (s1.heap.objs.size + 1) s1.heap.objs.size c, ⟨⟨.none, by rw [show c + ((0 : Nat) : Int) = c by omega]; exact hen⟩, ⟨_, hit, rfl, rfl⟩, Nat.succ_ne_self _⟩, fun b hb => ?_, q⟩
  have hle : s1.heap.objs.size ≤ b := by
    rcases List.mem_cons.mp hb with z | hb
    · rw [z]; exact Nat.le_add_right _ _
    · rw [List.mem_singleton.mp hb]; exact Nat.le_refl _
  exact I1.fpOk hle (I1.hok.fresh hle)
end L2
set_option Elab.async false
set_option linter.all false
set_option maxRecDepth 100000
set_option maxHeartbeats 4000000
namespace L2
open PySem PySem.Spec PyProof.Rows PySem.HErr
section
variable {X : Cx} {i : Nat} {x : Str} {p p2 pos cp cpos : Pos} {e : Expr} {a b : List Stmt} {te : TE} {t u : TS} {j}
/-- if (x := e) is not None, as x = e; if x is not None -/
theorem ps_ifNm (hN : X.N.Nodup) (hi : X.N[i]? = some x) (hx : Loc X.env.scope x) (he : PE X e te) (ha : PSs X a t) (hb : PSs X b u) (hf : X.fn x = true ∨ X.env.scope.names.lookup x = some .local := by first | exact .inl rfl | exact .inr rfl | assumption) :
    PS X (.If (.Compare (.NamedExpr (.Name x p) e p2) [.IsNot] [.Constant .none j cp] cpos) a b pos) (tSeq (tAsg te (gName i)) (tIfS (tB (tNotN (tVar i))) t u)) := by
  refine ⟨fun pins s σ H D I h => ?_⟩
  refine wpAny_If (wpAny_isTrue_Compare1 (wpAny_NamedExpr (thn (he.run pins s σ H _ I h) fun v s1 ⟨x1, H1, I1, r1, q1⟩ => ?_)) (nobehind _ (by decide) (by decide)))
  refine wpAny_assign_Name (store_ok I1 hN hi hx r1 (fun s2 I2 => Constant_none (isnot_none_gen (wpAny_truthy_bool ?_))) hf)
  obtain ⟨x2, h2, c, h3, q2⟩ := q1
  have hlt : i < σ.length := by
    rw [I1.len]
    exact (List.getElem?_eq_some_iff.mp hi).1
  rw [List.getElem?_set_self hlt] at h2
  obtain rfl : x1 = x2 := by simpa using h2
  have h3 : V.bl (!decide (x1 = V.non)) = V.bl c := h3
  have hc : (!decide (x1 = V.non)) = c := V.bl.inj h3
  have ev : (!(v == Value.none)) = c := by rw [r1.none_iff]; exact hc
  rw [ev]
  cases c with
  | true => exact ha.run pins s2 _ H1 D I2 q2
  | false => exact hb.run pins s2 _ H1 D I2 q2
end
section
variable {fr : Fr} {Γ : Gam} {Θ : List Cel} {K : Vp → List Cel → Prop}
theorem kn_mat3 {Kf : PySem.W.Frag} {te : TE} {i j k : Nat} {tg : TT} {tb : TS} {D : Ends} (w : We fr Γ Θ te fun p Θ1 => ∃ xs : List Str, p = iz (yL yS) xs ∧
    (∀ u1 u2 u3, xs = [u1, u2, u3] → Wt fr (((Γ.set i (some (iz yS u1))).set j (some (iz yS u2))).set k (some (iz yS u3))) Θ1 tg fun b Θ2 => (b = true → Kn fr (((Γ.set i (some (iz yS u1))).set j (some (iz yS u2))).set k (some (iz yS u3))) Θ2 (tb D)) ∧ (b = false → Kn fr (((Γ.set i (some (iz yS u1))).set j (some (iz yS u2))).set k (some (iz yS u3))) Θ2 D.nx)) ∧
    (xs.length ≠ 3 → Kn fr Γ Θ1 D.nx)) : Kn fr Γ Θ (tMat3 Kf te i j k tg tb D) := fun σ F H ok env =>
  w σ F H ok env _ fun p Θ1 ⟨xs, e, k1, k2⟩ v F1 H1 s1 ok1 hp => by
    subst e
    obtain ⟨⟨a, vs, rfl, h2, h3⟩, h4⟩ := hp
    refine ⟨a, vs, rfl, SqL.of (ok1.fh _ _ h2), fun u1 u2 u3 e => ?_, fun e => k2 (by rw [← Paired.len h3]; exact e) σ F1 H1 ok1 (env.mono s1)⟩
    subst e
    cases h3 with
    | cons c1 h3 => cases h3 with
      | cons c2 h3 => cases h3 with
        | cons c3 h3 =>
          cases h3
          refine k1 _ _ _ rfl _ F1 H1 ok1 ((((env.mono s1).set (p := iz yS _) c1).set (p := iz yS _) c2).set (p := iz yS _) c3) _ fun b Θ2 ⟨q1, q2⟩ F2 H2 s2 ok2 => ?_
          have env2 := ((((env.mono s1).set (i := i) (p := iz yS _) c1).set (i := j) (p := iz yS _) c2).set (i := k) (p := iz yS _) c3).mono s2
          cases b with
          | true =>
            rw [if_pos rfl]
            exact q1 rfl _ F2 H2 ok2 env2
          | false =>
            rw [if_neg Bool.false_ne_true]
            exact q2 rfl _ F2 H2 ok2 env2
theorem kn_mat2s {Kf : PySem.W.Frag} {te : TE} {i j k : Nat} {tg : TT} {tb : TS} {D : Ends} (w : We fr Γ Θ te fun p Θ1 => ∃ xs : List Str, p = iz (yL yS) xs ∧
    (∀ u1 u2 r, xs = u1 :: u2 :: r → Wt fr (((Γ.set i (some (iz yS u1))).set j (some (iz yS u2))).set k (some (iz (yL yS) r))) Θ1 tg fun b Θ2 => (b = true → Kn fr (((Γ.set i (some (iz yS u1))).set j (some (iz yS u2))).set k (some (iz (yL yS) r))) Θ2 (tb D)) ∧ (b = false → Kn fr (((Γ.set i (some (iz yS u1))).set j (some (iz yS u2))).set k (some (iz (yL yS) r))) Θ2 D.nx)) ∧
    (xs.length < 2 → Kn fr Γ Θ1 D.nx)) : Kn fr Γ Θ (tMat2s Kf te i j k tg tb D) := fun σ F H ok env =>
  w σ F H ok env _ fun p Θ1 ⟨xs, e, k1, k2⟩ v F1 H1 s1 ok1 hp => by
    subst e
    obtain ⟨⟨a, vs, rfl, h2, h3⟩, h4⟩ := hp
    refine ⟨a, vs, rfl, SqL.of (ok1.fh _ _ h2), fun u1 u2 r p e np => ?_, fun e => k2 (by rw [← Paired.len h3]; exact e) σ F1 H1 ok1 (env.mono s1)⟩
    subst e
    obtain ⟨y1, y2, ys, rfl, c1, c2, h3⟩ : ∃ y1 y2 ys, xs = y1 :: y2 :: ys ∧ yS.p F1 u1 y1 ∧ yS.p F1 u2 y2 ∧ PVs yS F1 r ys := by
      cases h3 with
      | cons c1 h3 => cases h3 with
        | cons c2 h3 => exact ⟨_, _, _, rfl, c1, c2, h3⟩
    · · have ok3 := ok1.new (o := .lst r) np
        have s3 := ok1.sameF (o := .lst r) np
        have c3 : (iz (yL yS) ys).p (upd F1 p (.lst r)) (.ref p) := ⟨⟨p, r, rfl, upd_same, Paired.imp2 (fun _ _ h => yS.mono s3 h) h3⟩, by
          simp only [List.length_cons] at h4
          omega⟩
        have env1 := ((((env.mono s1).mono s3).set (i := i) (p := iz yS _) (yS.mono s3 c1)).set (i := j) (p := iz yS _) (yS.mono s3 c2)).set (i := k) (p := iz (yL yS) _) c3
        refine k1 _ _ _ rfl _ _ _ ok3 env1 _ fun b Θ2 ⟨q1, q2⟩ F2 H2 s2 ok2 => ?_
        have env2 := env1.mono s2
        cases b with
        | true =>
          rw [if_pos rfl]
          exact q1 rfl _ F2 H2 ok2 env2
        | false =>
          rw [if_neg Bool.false_ne_true]
          exact q2 rfl _ F2 H2 ok2 env2
def enS {α : Type} (c : Int) (xs : List α) : List (Int × α) := xs.zipIdx.map fun p => (c + ((p.2 : Nat) : Int), p.1)
theorem enS_get {α : Type} {c : Int} {xs : List α} {i : Nat} : (enS c xs)[i]? = xs[i]?.map fun x => (c + (i : Int), x) := by
  unfold enS
  rw [List.getElem?_map, List.getElem?_zipIdx]
  cases xs[i]? with
  | none => rfl
  | some x => show some (c + ((0 + i : Nat) : Int), x) = some _; rw [Nat.zero_add]
theorem enS_len {α : Type} {c : Int} {xs : List α} : (enS c xs).length = xs.length := by unfold enS; rw [List.length_map, List.length_zipIdx]
theorem wi_enumS {Kf : PySem.W.Frag} {c : Int} {te : TE} {K : List Vp → List Cel → Prop} (w : We fr Γ Θ te fun p Θ1 => ∃ (α : Type) (r : Rep α) (xs : List α), p = iz (yL r) xs ∧ ((enS c xs).length ≤ big → K ((enS c xs).map (iz (z2 zI r))) Θ1)) : Wi fr Γ Θ (iEnumS Kf c te) K := fun σ F H ok env R q =>
  w σ F H ok env _ fun p Θ1 ⟨α, r, xs, e, k⟩ v F1 H1 s1 ok1 hp => by
    subst e
    obtain ⟨⟨a, us, rfl, a2, a3⟩, a4⟩ := hp
    have hk := k (by rw [enS_len]; exact a4)
    refine ⟨a, us, rfl, SqL.of (ok1.fh _ _ a2), q _ Θ1 hk _ F1 H1 s1 ok1 fun F2 H2 s2 fh => ?_⟩
    have qa : SqL Kf H2 a us := SqL.of (fh _ _ (s2 _ _ a2))
    refine ⟨fun i p hi => ?_, ?_⟩
    · obtain ⟨z, hz, rfl⟩ := get_izs hi
      rw [enS_get] at hz
      obtain ⟨x0, z1, rfl⟩ := Option.map_eq_some_iff.mp hz
      obtain ⟨u, hu, hux⟩ := Paired.get' a3 z1
      refine ⟨⟨us, u, qa, hu⟩, fun x H3 ⟨T, x1, e1, e2, e3, e4⟩ => ?_⟩
      subst e1 e3
      have e4 := e4 us qa
      rw [hu] at e4
      cases e4
      have nF : F2 T = none := fh.free e2
      have sF : Same F2 (upd F2 T (.tup [.int (c + (i : Nat)), u])) := same_upd nF
      refine ⟨upd F2 T (.tup [.int (c + (i : Nat)), u]), sF, same_upd e2, fun d o hd => ?_, fun d o hd => ?_, ⟨T, .int (c + (i : Nat)), u, rfl, upd_same, rfl, r.mono (s2.trans sF) hux⟩⟩
      · by_cases q : d = T
        · subst q
          rw [upd_same] at hd ⊢
          exact hd
        · rw [upd_ne q] at hd ⊢
          exact fh _ _ hd
      · by_cases q : d = T
        · subst q
          exact .inr (.inl e2)
        · rw [upd_ne q] at hd
          exact .inl ⟨o, hd⟩
    · rw [List.length_map, enS_len]
      exact ⟨us, qa, Nat.le_of_eq (Paired.len a3)⟩
theorem wa_star2 {Kf : PySem.W.Frag} {α β : Type} {r : Rep α} {s : Rep β} {te : TE} {t : TA} {K : List Vp → List Cel → Prop} (w : We fr Γ Θ te fun p Θ1 => ∃ x : α × β, p = iz (z2 r s) x ∧ Wa fr Γ Θ1 t fun ps Θ2 => K (iz r x.1 :: iz s x.2 :: ps) Θ2) : Wa fr Γ Θ (StX.tStar Kf te t) K := fun σ F H ok env Q q =>
  w σ F H ok env _ fun p Θ1 ⟨x, e, k⟩ v F1 H1 s1 ok1 hp => by
    subst e
    obtain ⟨a, u, w, rfl, h2, h3, h4⟩ := hp
    exact ⟨a, [u, w], rfl, .inl (SqT.of (ok1.fh _ _ h2)), k σ F1 H1 ok1 (env.mono s1) _ fun ps Θ2 kk us F2 H2 s2 ok2 hps => q _ Θ2 kk _ F2 H2 (s1.trans s2) ok2 (.cons (r.mono s2 h3) (.cons (s.mono s2 h4) hps))⟩
theorem wa_star3 {Kf : PySem.W.Frag} {α β γ : Type} {r : Rep α} {s : Rep β} {g : Rep γ} {te : TE} {t : TA} {K : List Vp → List Cel → Prop} (w : We fr Γ Θ te fun p Θ1 => ∃ x : α × β × γ, p = iz (z3 r s g) x ∧ Wa fr Γ Θ1 t fun ps Θ2 => K (iz r x.1 :: iz s x.2.1 :: iz g x.2.2 :: ps) Θ2) : Wa fr Γ Θ (StX.tStar Kf te t) K := fun σ F H ok env Q q =>
  w σ F H ok env _ fun p Θ1 ⟨x, e, k⟩ v F1 H1 s1 ok1 hp => by
    subst e
    obtain ⟨a, u, w, y, rfl, h2, h3, h4, h5⟩ := hp
    exact ⟨a, [u, w, y], rfl, .inl (SqT.of (ok1.fh _ _ h2)), k σ F1 H1 ok1 (env.mono s1) _ fun ps Θ2 kk us F2 H2 s2 ok2 hps => q _ Θ2 kk _ F2 H2 (s1.trans s2) ok2 (.cons (r.mono s2 h3) (.cons (s.mono s2 h4) (.cons (g.mono s2 h5) hps)))⟩
theorem oy_sl31 {Kf : PySem.W.Frag} {α β γ : Type} {r : Rep α} {s : Rep β} {t : Rep γ} {x : α × β × γ} (k : K (iz (z2 s t) x.2) Θ) : Sls fr Θ (rSlA Kf) (iz (z3 r s t) x) (some 1) none K := fun F H v ok ⟨a, u, w, y, h1, h2, h3, h4, h5⟩ Q q => by
  subst h1
  refine ⟨a, [u, w, y], rfl, SqT.of (ok.fh _ _ h2), fun e => absurd (show (1 : Nat) = 0 from e.1) (by decide), fun _ p np => q.new k ok np ⟨p, w, y, rfl, upd_same, s.mono (ok.sameF np) h4, t.mono (ok.sameF np) h5⟩⟩
theorem oy_sl41 {Kf : PySem.W.Frag} {α β γ δ : Type} {r : Rep α} {s : Rep β} {t : Rep γ} {o : Rep δ} {x : α × β × γ × δ} (k : K (iz (z3 s t o) x.2) Θ) : Sls fr Θ (rSlA Kf) (iz (z4 r s t o) x) (some 1) none K := fun F H v ok ⟨a, u, w, y, z, h1, h2, h3, h4, h5, h6⟩ Q q => by
  subst h1
  refine ⟨a, [u, w, y, z], rfl, SqT.of (ok.fh _ _ h2), fun e => absurd (show (1 : Nat) = 0 from e.1) (by decide), fun _ p np => q.new k ok np ⟨p, w, y, z, rfl, upd_same, s.mono (ok.sameF np) h4, t.mono (ok.sameF np) h5, o.mono (ok.sameF np) h6⟩⟩
theorem my_ends {x y : Str} (k : K (iz zB (Txt.endswith x y)) Θ) : Mts fr Θ (fun x xs H Q => ∃ a b, x = .str a ∧ xs = [.str b] ∧ Q (.bl (Txt.endswith a b)) H) (iz yS x) [iz yS y] K := fun F H v vs ok hv hps Q q => by
  obtain ⟨⟨rfl, _⟩, _⟩ := hv
  cases hps with
  | cons h1 hp => cases hp with
    | nil =>
      obtain ⟨⟨rfl, _⟩, _⟩ := h1
      exact ⟨x, y, rfl, rfl, q.go k ok rfl⟩
theorem ty_S' {Kf : PySem.W.Frag} {z : Str} : TruP fr Θ Kf (iz yS z) ((z.length : Int) != 0) := fun F H v ok h => by
  obtain ⟨⟨rfl, _⟩, hl⟩ := h
  exact ⟨big_line hl, rfl⟩
/-- the first entry of a tuple of one of two forms -/
def uFst {α β γ : Type} : (α × β) ⊕ (α × γ) → α
  | .inl x => x.1
  | .inr x => x.1
theorem oy_ixU34 {Kf : PySem.W.Frag} {α β γ δ ε ζ : Type} {r : Rep α} {s : Rep β} {t : Rep γ} {s2 : Rep δ} {t2 : Rep ε} {o2 : Rep ζ} {x : (α × β × γ) ⊕ (α × δ × ε × ζ)} (k : K (iz r (uFst x)) Θ) : Ops fr Θ (rIxT Kf) (iz (yU (z3 r s t) (z4 r s2 t2 o2)) x) (iz zI 0) K := fun F H v w ok hv hw Q q => by
  cases x with
  | inl x =>
    obtain ⟨a, u, z, y, rfl, h2, h3, h4, h5⟩ := hv
    exact ⟨a, _, 0, u, rfl, hw, SqT.of (ok.fh _ _ h2), rfl, q.go k ok h3⟩
  | inr x =>
    obtain ⟨a, u, z, y, y2, rfl, h2, h3, h4, h5, h6⟩ := hv
    exact ⟨a, _, 0, u, rfl, hw, SqT.of (ok.fh _ _ h2), rfl, q.go k ok h3⟩
end
end L2
set_option Elab.async false
set_option linter.all false
set_option maxRecDepth 100000
set_option maxHeartbeats 4000000
namespace L2
open PySem PySem.Spec PyProof.Rows PySem.HErr
structure SrcV (K : PySem.W.Frag) (mg : Str → Option Value) (x : Str) (st : Stmt) (ps : List Str) (pv : Str) : Prop where
  ex : ∃ f fd, FunA K x x st f fd ∧ mg x = some (.ref f) ∧ ∀ us rest : List Value, us.length = ps.length → bindArgs fd ⟨us ++ rest, []⟩ = (newTuple rest >>= fun t => pure (ps.zip us ++ [(pv, t)]))
/-- the def x, called with what args tells and with words behind -/
def spV {α β : Type} (ef : HE → Er) (n : Nat) (args : α → List Vp) (r : Rep β) (md : α → List Str → DM β) : Sp := fun vs H Q E => ∃ ws rest, vs = ws ++ rest ∧ ws.length = n ∧ rest.length ≤ sizeLine ∧ ∀ p, H p = none → spA (preW ef (fun x : α × List Str => args x.1 ++ [iz (yT yS) x.2]) r (fun x => md x.1 x.2)) (ws ++ [V.ref p]) (upd H p (.tup rest)) Q E
structure DefV (P : Program) (w : World) (K : PySem.W.Frag) (mg : Str → Option Value) (base : Heap) (CX : CXT) (k : Nat) (x : Str) (sp : Sp) : Prop where
  ex : ∃ f, mg x = some (.ref f) ∧ PySem.W.keepIn K (.ref f) = true ∧ FnR P w K mg base CX k f sp
section
variable {P : Program} {w : World} {K : PySem.W.Frag} {mg : Str → Option Value} {base : Heap} {CX : CXT} {x pv : Str} {st : Stmt} {N ps : List Str} {j k : Nat} {sp : Sp}
theorem DefV.mono (D : DefV P w K mg base CX j x sp) (h : j ≤ k) : DefV P w K mg base CX k x sp := by
  obtain ⟨f, h1, h2, h3⟩ := D.ex
  exact ⟨f, h1, h2, h3.mono h⟩
theorem SrcV.okWX {α β : Type} {ef : HE → Er} {args : α → List Vp} {r : Rep β} {md : α → List Str → DM β} (F : SrcV K mg x st ps pv) (S : FnScope N (ps ++ [pv]) (defScope st)) (len : ∀ x, (args x).length = ps.length)
    (hbody : ∀ (f : Addr) (cdv : Value) (A : Around) (outer : List Env) (s : Shared) (H : Hp) (E : XK) (a : α × List Str) (Q : β → Prop) (X : HE → Prop), Room k (A.deeper (envOfC x (defScope st) s.heap.objs.size f cdv)) → md a.1 a.2 Q X →
      ∃ t, PSs (cxOf (L2.CX P w) P w K mg base N x (defScope st) f cdv A outer s H E) (defBody st) t ∧ ∀ fr Qv, RetW fr Qv r Q → RseW fr E ef X → Kn fr (envOf N (args a.1 ++ [iz (yT yS) a.2])) [] (t { nx := fun _ H' => Qv .non H', rt := Qv })) : DefV P w K mg base (L2.CX P w) (k + 1) x (spV ef ps.length args r md) := by
  obtain ⟨f, fd, h1, h2, h3⟩ := F.ex
  obtain ⟨oc, od, dV, kV, doc, pm, an, cdv, ct, osl, rfl, lk, hcd⟩ := h1.ex
  refine ⟨f, h2, h1.kp, StX.fn_star lk hcd S StX.cxUp h3 fun A outer s H vs Q E hr hsp => ?_⟩
  obtain ⟨F1, qs, out, err, fh, hps, ⟨a, Q1, X, e1, h, e2, e3⟩, post, pers⟩ := hsp
  subst e1 e2 e3
  obtain ⟨t, ht, hk⟩ := hbody f cdv A outer s H E a Q1 X hr h
  refine ⟨t, ht, hk _ Q (fun y hy Θ => post.ret _ ⟨y, hy, rfl⟩ Θ) (fun z hz Γ Θ => kr_E (pers.rse) ⟨z, hz, rfl⟩) _ F1 H (OkF.start fh) (env_start hps)⟩
end
end L2
set_option Elab.async false
set_option linter.all false
set_option maxRecDepth 100000
set_option maxHeartbeats 4000000
namespace L2
open PySem PySem.Spec PyProof.Rows PySem.HErr
end L2
set_option Elab.async false
set_option linter.all false
set_option maxRecDepth 100000
set_option maxHeartbeats 4000000
namespace L2
open PySem PySem.Spec PyProof.Rows PySem.HErr
/-- rows of a plan as a nested list -/
abbrev zDr : Rep (List (Str × Int) × List (Str × List Str × List Str)) := zLp (yL (zLp yS zI)) (yL (zL3 yS (yL yS) (yL yS)))
/-- the frame of nobody -/
abbrev fr0 : Fr := ⟨fun _ => none, fun _ => none, []⟩
def zOpn (bs : List Addr) (pl : List (Str × Int) × List (Str × List Str × List Str)) : Vp := ⟨fun F v => ∃ a p w, v = .ref a ∧ F a = some (.lst [.ref p, w]) ∧ F p = some (.lst (bs.map V.ref)) ∧ PVs (zLp yS zI) F (bs.map V.ref) pl.1 ∧ pl.1.length ≤ big ∧ (yL (zL3 yS (yL yS) (yL yS))).p F w pl.2,
  fun e ⟨a, p, w, h1, h2, h3, h4, h5, h6⟩ => ⟨a, p, w, h1, e _ _ h2, e _ _ h3, Paired.imp2 (fun _ _ h => Rep.mono _ e h) h4, h5, Rep.mono _ e h6⟩⟩
def zBs (bs : List Addr) (rows : List (Str × Int)) : Vp := ⟨fun F v => ∃ p, v = .ref p ∧ F p = some (.lst (bs.map V.ref)) ∧ PVs (zLp yS zI) F (bs.map V.ref) rows,
  fun e ⟨p, h1, h2, h3⟩ => ⟨p, h1, e _ _ h2, Paired.imp2 (fun _ _ h => Rep.mono _ e h) h3⟩⟩
def zRw (b : Addr) (row : Str × Int) : Vp := ⟨fun F v => v = .ref b ∧ (zLp yS zI).p F (.ref b) row, fun e ⟨h1, h2⟩ => ⟨h1, Rep.mono _ e h2⟩⟩
theorem le_rw {b : Addr} {row : Str × Int} : (zRw b row).Le (iz (zLp yS zI) row) := fun F v ⟨h1, h2⟩ => by
  subst h1
  exact h2
theorem le_opn {bs : List Addr} {pl : List (Str × Int) × List (Str × List Str × List Str)} : (zOpn bs pl).Le (iz zDr pl) := fun F v ⟨a, p, w, h1, h2, h3, h4, h5, h6⟩ => ⟨a, .ref p, w, h1, h2, ⟨⟨p, _, rfl, h3, h4⟩, h5⟩, h6⟩
instance : NoLst yS := ⟨fun _ h => h⟩
instance : NoLst zI := ⟨fun _ h => h⟩
instance : NoLst zB := ⟨fun _ h => h⟩
def NolE (e e' : Option Vp) : Prop := e' = none ∨ (e' = e ∧ ∀ p, e = some p → ∀ F F' v, NoL F F' → p.p F v → p.p F' v)
theorem env_nol {Γ Γ2 : Gam} (h : Paired NolE Γ Γ2) : ∀ (σ : L2.St) (F F' : Hp), NoL F F' → EnvF Γ σ F → EnvF Γ2 σ F' := fun σ F F' n => by
  induction h generalizing σ with
  | nil => intro e; cases e; exact .nil
  | cons a _ ih =>
    intro e
    cases e with
    | cons q t =>
      refine .cons (fun p hp => ?_) (ih _ t)
      rcases a with a | ⟨a, b⟩
      · rw [a] at hp; cases hp
      · rw [a] at hp
        obtain ⟨v, h1, h2⟩ := q p hp
        exact ⟨v, h1, b p hp F F' v n h2⟩
section
variable {fr : Fr} {Γ Γ2 : Gam} {Θ : List Cel} {K : Vp → List Cel → Prop}
theorem own_all {Θ : List Cel} (h : Θ.all (·.own) = true) : ∀ c ∈ Θ, c.own = true := List.all_eq_true.mp h
theorem kn_free {P : L2.St → Hp → Prop} (ho : ∀ c ∈ Θ, c.own = true) (k : Kn fr0 Γ Θ P) : Kn fr Γ Θ P := fun σ F H ok env => k σ F H ⟨ok.fh, (fun a o h => by cases h), (fun a o h => .inr (.inl rfl)), (fun a o _ h => by cases h), (fun a o h => by cases h), ok.nd, fun c hc => by
  obtain ⟨h1, h2, h3⟩ := ok.ce c hc
  exact ⟨h1, h2, by rw [if_pos (ho c hc)]⟩⟩ env
theorem rows_refs {F : Hp} : ∀ {vs : List V} {rows : List (Str × Int)}, PVs (zLp yS zI) F vs rows → ∃ bs : List Addr, vs = bs.map V.ref ∧ bs.length = rows.length
  | _, _, .nil => ⟨[], rfl, rfl⟩
  | _, _, .cons ⟨a, u, z, h1, _⟩ t => by
    obtain ⟨bs, e, l⟩ := rows_refs t
    exact ⟨a :: bs, by rw [List.map_cons, h1, e], by rw [List.length_cons, List.length_cons, l]⟩
theorem kn_opn {P : L2.St → Hp → Prop} {i : Nat} {pl : List (Str × Int) × List (Str × List Str × List Str)} (hi : Γ[i]? = some (some (iz zDr pl))) (k : ∀ bs : List Addr, bs.length = pl.1.length → Kn fr (Γ.set i (some (zOpn bs pl))) Θ P) : Kn fr Γ Θ P := fun σ F H ok env => by
  obtain ⟨v, h1, h2⟩ := env.get hi
  obtain ⟨a, u, w, e1, e2, ⟨⟨p, vs, e3, e4, e5⟩, e6⟩, e7⟩ := h2
  obtain ⟨bs, eb, lb⟩ := rows_refs e5
  subst eb e3
  have := env.set (i := i) (p := zOpn bs pl) (v := v) ⟨a, p, w, e1, e2, e4, e5, e6, e7⟩
  rw [set_same h1] at this
  exact k bs lb σ F H ok this
theorem oy_opn0 {Kf : PySem.W.Frag} {bs : List Addr} {pl : List (Str × Int) × List (Str × List Str × List Str)} (k : K (zBs bs pl.1) Θ) : Ops fr Θ (rIxL Kf) (zOpn bs pl) (iz zI 0) K := fun F H v w ok ⟨a, p, z, h1, h2, h3, h4, h5, h6⟩ hw Q q => by
  have hw : w = .int 0 := hw
  subst h1 hw
  exact ⟨a, _, 0, .ref p, rfl, rfl, SqL.of (ok.fh _ _ h2), rfl, q.go k ok ⟨p, rfl, h3, h4⟩⟩
theorem pvs_at2 {α : Type} {r : Rep α} {F : Hp} : ∀ {vs : List V} {xs : List α} {m : Nat} {v : V} {x : α}, PVs r F vs xs → vs[m]? = some v → xs[m]? = some x → r.p F v x
  | _, _, _, _, _, .nil, h, _ => by cases h
  | _, _, 0, _, _, .cons h _, h1, h2 => by
    cases h1
    cases h2
    exact h
  | _, _, m + 1, _, _, .cons _ t, h1, h2 => pvs_at2 (m := m) t h1 h2
theorem oy_bsAt {Kf : PySem.W.Frag} {bs : List Addr} {rows : List (Str × Int)} {row : Str × Int} {b : Addr} {n : Int} {m : Nat} (lb : bs.length = rows.length) (hm : ixN rows.length n = some m) (hr : rows[m]? = some row) (hb : bs[m]? = some b) (k : K (zRw b row) Θ) : Ops fr Θ (rIxL Kf) (zBs bs rows) (iz zI n) K := fun F H v w ok ⟨p, h1, h2, h3⟩ hw Q q => by
  have hw : w = .int n := hw
  subst h1 hw
  have e : (bs.map V.ref)[m]? = some (.ref b) := by rw [List.getElem?_map, hb]; rfl
  refine ⟨p, _, n, .ref b, rfl, rfl, SqL.of (ok.fh _ _ h2), ?_, q.go k ok ⟨rfl, pvs_at2 h3 e hr⟩⟩
  unfold atI
  rw [List.length_map, lb, hm]
  exact e
/-- all but such a row stays -/
def Far (F F' : Hp) (w : Str) (n : Int) : Prop := ∀ c o, F c = some o → o ≠ .lst [.str w, .int n] → F' c = some o
theorem row_keep {F F' : Hp} {w : Str} {n : Int} (far : Far F F' w n) {v : V} {r : Str × Int} (h : (zLp yS zI).p F v r) (hw : r.1 ≠ w) : (zLp yS zI).p F' v r := by
  obtain ⟨a, u, z, e1, e2, e3, e4⟩ := h
  refine ⟨a, u, z, e1, far _ _ e2 fun q => hw ?_, e3, e4⟩
  have e5 : u = .str r.1 := e3.1.1
  subst e5
  injection q with q
  injection q with q _
  injection q
theorem rows_keep {F F' : Hp} {w : Str} {n : Int} (far : Far F F' w n) : ∀ {vs : List V} {rows : List (Str × Int)}, PVs (zLp yS zI) F vs rows → w ∉ rows.map (·.1) → PVs (zLp yS zI) F' vs rows
  | _, _, .nil, _ => .nil
  | _, _, .cons h t, hw => .cons (row_keep far h fun e => hw (by rw [← e]; exact List.mem_cons_self ..)) (rows_keep far t fun q => hw (List.mem_cons_of_mem _ q))
theorem rows_upd {F F' : Hp} {w : Str} {n n' : Int} {b : Addr} (far : Far F F' w n) (hb' : F' b = some (.lst [.str w, .int n'])) (hw : yS.p F' (.str w) w) : ∀ {bs : List Addr} {rows : List (Str × Int)} {m : Nat}, PVs (zLp yS zI) F (bs.map V.ref) rows → (rows.map (·.1)).Nodup → bs[m]? = some b → rows[m]? = some (w, n) → PVs (zLp yS zI) F' (bs.map V.ref) (rows.set m (w, n'))
  | [], _, _, _, _, h, _ => by cases h
  | c :: bs, [], _, h, _, _, _ => by cases h
  | c :: bs, r :: rows, 0, h, nd, h1, h2 => by
    cases h1
    cases h2
    rw [List.map_cons, List.nodup_cons] at nd
    cases h with
    | cons h t => exact .cons ⟨_, _, _, rfl, hb', hw, rfl⟩ (rows_keep far t nd.1)
  | c :: bs, r :: rows, m + 1, h, nd, h1, h2 => by
    rw [List.map_cons, List.nodup_cons] at nd
    cases h with
    | cons h t => exact .cons (row_keep far h fun e => nd.1 (by rw [e]; exact List.mem_map.mpr ⟨_, List.mem_of_getElem? h2, rfl⟩)) (rows_upd far hb' hw (m := m) t nd.2 h1 h2)
theorem strs_keep {F F' : Hp} {w : Str} {n : Int} (far : Far F F' w n) {v : V} {l : List Str} (h : (yL yS).p F v l) : (yL yS).p F' v l := by
  obtain ⟨⟨a, vs, e1, e2, e3⟩, e4⟩ := h
  refine ⟨⟨a, vs, e1, far _ _ e2 fun q => ?_, e3⟩, e4⟩
  injection q with q
  subst q
  cases e3 with
  | cons _ t => cases t with
    | cons h _ =>
      have h : V.int n = .str _ := h.1.1
      cases h
theorem srows_keep {F F' : Hp} {w : Str} {n : Int} (far : Far F F' w n) {v : V} {l : List (Str × List Str × List Str)} (h : (yL (zL3 yS (yL yS) (yL yS))).p F v l) : (yL (zL3 yS (yL yS) (yL yS))).p F' v l := by
  obtain ⟨⟨a, vs, e1, e2, e3⟩, e4⟩ := h
  refine ⟨⟨a, vs, e1, far _ _ e2 fun q => ?_, Paired.imp2 (fun v x h => ?_) e3⟩, e4⟩
  · injection q with q
    subst q
    cases e3 with
    | cons h _ =>
      obtain ⟨_, _, _, _, h, _⟩ := h
      cases h
  · obtain ⟨c, u1, u2, u3, f1, f2, f3, f4, f5⟩ := h
    refine ⟨c, u1, u2, u3, f1, far _ _ f2 fun q => ?_, f3, strs_keep far f4, strs_keep far f5⟩
    injection q with q
    injection q with _ q
    injection q with _ q
    cases q
theorem kn_rowput {ix ip m : Nat} {b : Addr} {bs : List Addr} {pl : List (Str × Int) × List (Str × List Str × List Str)} {row : Str × Int} {te ti : TE} {D : Ends} (hx : Γ[ix]? = some (some (zRw b row))) (hp : Γ[ip]? = some (some (zOpn bs pl))) (hb : bs[m]? = some b) (hr : pl.1[m]? = some row) (nd : (pl.1.map (·.1)).Nodup)
    (hΓ : ∀ σ F F', NoL F F' → EnvF Γ σ F → EnvF Γ2 σ F') (w : We fr0 Γ Θ te fun p Θ1 => We fr0 Γ Θ1 ti fun q Θ2 => ∃ n, p = iz zI n ∧ q = iz zI 1 ∧ Kn fr0 (Γ2.set ip (some (iz zDr (pl.1.set m (row.1, n), pl.2)))) [] D.nx) : Kn fr0 Γ Θ (tAsg te (gSub (tVar ix) ti rSetL) D) := fun σ F H ok env =>
  w σ F H ok env _ fun p Θ1 k v F1 H1 s1 ok1 hp1 => by
    obtain ⟨v0, h1, h2, _⟩ := (env.mono s1).get hx
    subst h2
    refine ⟨_, h1, k σ F1 H1 ok1 (env.mono s1) _ fun q Θ2 ⟨n, e1, e2, k2⟩ w2 F2 H2 s2 ok2 hp2 => ?_⟩
    subst e1 e2
    have env2 := (env.mono s1).mono s2
    have hp1 : v = .int n := hp1
    have hp2 : w2 = .int 1 := hp2
    subst hp1 hp2
    obtain ⟨v0, g1, _, g2⟩ := env2.get hx
    obtain ⟨c, u, z, c1, c2, c3, c4⟩ := g2
    cases c1
    have c3' : u = .str row.1 := c3.1.1
    have c4 : z = .int row.2 := c4
    subst c3' c4
    obtain ⟨vp, p1, a, pp, ws, p2, p3, p4, p5, p6, p7⟩ := env2.get hp
    have far : Far F2 (upd F2 b (.lst [.str row.1, .int n])) row.1 row.2 := fun c o h q => by
      by_cases e : c = b
      · rw [e, c2] at h
        cases h
        exact absurd rfl q
      · rw [upd_ne e]
        exact h
    have nol : NoL F2 (upd F2 b (.lst [.str row.1, .int n])) := fun c o h q => far c o h (q _)
    have hrow : (zDr).p (upd F2 b (.lst [.str row.1, .int n])) vp (pl.1.set m (row.1, n), pl.2) := by
      refine ⟨a, .ref pp, ws, p2, far _ _ p3 fun q => ?_, ⟨⟨pp, _, rfl, far _ _ p4 fun q => ?_, rows_upd far upd_same ⟨c3.1, c3.2⟩ p5 nd hb hr⟩, by rw [List.length_set]; exact p6⟩, srows_keep far p7⟩
      · injection q with q
        injection q with q _
        cases q
      · injection q with q
        cases bs with
        | nil => cases hb
        | cons d bs =>
          injection q with q _
          cases q
    have env3 := (hΓ σ F2 _ nol env2).set (i := ip) (p := iz zDr (pl.1.set m (row.1, n), pl.2)) (v := vp) hrow
    rw [set_same p1] at env3
    refine ⟨b, _, 1, 1, rfl, rfl, ok2.fh _ _ c2, rfl, k2 σ _ _ ⟨fun c o h => ?_, (fun a o h => by cases h), (fun a o h => .inr (.inl rfl)), (fun a o _ h => by cases h), (fun a o h => by cases h), List.nodup_nil, (fun c hc => by cases hc)⟩ env3⟩
    by_cases e : c = b
    · subst e
      rw [upd_same] at h ⊢
      exact h
    · rw [upd_ne e] at h ⊢
      exact ok2.fh _ _ h
end
end L2
namespace L2
open PySem PySem.Spec PyProof.Rows PySem.HErr
section
variable {fr : Fr} {Γ : Gam} {Θ : List Cel}
theorem wt_notN {te : TE} {K : Bool → List Cel → Prop} (w : We fr Γ Θ te fun p Θ1 => ∃ b, (∃ (α : Type) (r : Rep α) (_ : NotNon r) (o : Option α), p = iz (yO r) o ∧ b = o.isSome) ∧ K b Θ1) : Wt fr Γ Θ (tB (tNotN te)) K := fun σ F H ok env Q q =>
  w σ F H ok env _ fun p Θ1 ⟨b, ⟨α, r, nn, o, e1, e2⟩, k⟩ v F1 H1 s1 ok1 hv => by
    subst e1 e2
    refine ⟨o.isSome, ?_, q _ Θ1 k F1 H1 s1 ok1⟩
    cases o with
    | none => rw [show v = .non from hv]; rfl
    | some x => rw [decide_eq_false (nn.nn _ _ _ hv)]; rfl
end
end L2
set_option Elab.async false
set_option linter.all false
set_option maxRecDepth 100000
set_option maxHeartbeats 4000000
namespace Held
open PySem PySem.Spec PyProof.Rows L2 PySem.HErr
local macro_rules | `(tactic| ac_rfl) => `(tactic| (repeat (first | with_reducible refine kn_seq ?_ | with_reducible refine kn_asg ?_ | with_reducible refine kn_ret ?_ | with_reducible refine kn_next ?_ | with_reducible refine we_op ?_ | with_reducible refine we_un ?_ | with_reducible refine wa_nil ?_ | with_reducible refine wa_cons ?_ | with_reducible refine we_cb ?_ | with_reducible refine we_callE ?_ | with_reducible refine we_callS ?_ | with_reducible refine we_cI ?_ | with_reducible refine we_cB ?_ | with_reducible refine we_cN ?_ | (with_reducible refine is_cS ?_; refine we_cS (asc_of (by decide)) ?_) | (with_reducible refine is_var ?_; refine we_var rfl ?_) | with_reducible refine wt_test ?_ | with_reducible refine wt_b ?_ | with_reducible refine wt_not ?_ | with_reducible refine we_not ?_ | with_reducible refine we_sl ?_ | with_reducible refine wo_none ?_ | with_reducible refine wo_some ?_ | with_reducible refine wt_yes ?_ | with_reducible refine ops_I0 ?_ | with_reducible refine ops_B0 ?_ | with_reducible refine uns_I ?_ | with_reducible refine ops_eqI ?_ | with_reducible refine ops_neI ?_ | with_reducible refine ops_eqS ?_ | with_reducible refine ops_neS ?_ | with_reducible refine ops_eqB ?_ | with_reducible refine ops_neB ?_ | with_reducible refine ops_inS seq_L ?_ | with_reducible refine ops_inS seq_T ?_ | with_reducible refine ops_ninS seq_L ?_ | with_reducible refine ops_ninS seq_T ?_ | with_reducible refine ops_inI seq_L ?_ | with_reducible refine ops_inI seq_T ?_ | with_reducible refine ops_ix20 ?_ | with_reducible refine ops_ix21 ?_ | with_reducible refine ops_ix30 ?_ | with_reducible refine ops_ix31 ?_ | with_reducible refine ops_ix32 ?_ | with_reducible refine cb_len seq_L ?_ | with_reducible refine cb_len seq_T ?_ | with_reducible refine cb_list seq_L ?_ | with_reducible refine cb_list seq_T ?_ | with_reducible refine cb_tupleL ?_ | with_reducible refine cb_tupleT ?_ | with_reducible refine cb_any ?_ | with_reducible refine cb_all ?_ | with_reducible refine cb_sum ?_ | with_reducible refine cb_int ?_ | with_reducible refine cb_abs ?_ | with_reducible refine we_fld ?_ | with_reducible refine we_dget ?_ | with_reducible refine we_din ?_ | with_reducible refine we_dnin ?_ | with_reducible refine we_met ?_ | with_reducible refine wi_list ?_ | with_reducible refine wi_tup ?_ | with_reducible refine wi_range ?_ | with_reducible refine wi_range2 ?_ | with_reducible refine kn_if ?_ | with_reducible refine kn_raise ?_ | with_reducible refine ⟨_, fldP_taken (by assumption), ?_⟩ | with_reducible refine ⟨_, fldP_given (by assumption), ?_⟩ | with_reducible refine ⟨_, fldP_places (by assumption), ?_⟩ | with_reducible refine ⟨_, fldP_begin (by assumption), ?_⟩ | with_reducible refine ⟨_, fldP_steps (by assumption), ?_⟩ | with_reducible refine ⟨_, _, _, _, dic_D, rfl, ?_⟩ | refine ⟨ins_plan rfl, ?_⟩ | with_reducible refine we_mk ?_ | with_reducible refine we_cT ?_ | with_reducible refine we_cR ?_ | with_reducible refine ops_isO ?_ | with_reducible refine ops_notO ?_ | with_reducible refine ops_isX ?_ | with_reducible refine ops_notX ?_ | with_reducible refine ops_isN ?_ | with_reducible refine ops_notN ?_ | with_reducible refine ops_eqD (by decide) ?_ | with_reducible refine ops_neD (by decide) ?_ | with_reducible apply wt_and | with_reducible apply wt_or | with_reducible refine im_t (fun _ => ?_) | with_reducible refine im_f (fun _ => ?_) | with_reducible refine im_tv (fun _ => ?_) | with_reducible refine im_fv (fun _ => ?_) | with_reducible refine cb_isi ty_L kit_ll ?_ | with_reducible refine cb_isi ty_T kit_tt ?_ | with_reducible refine cb_isi ty_2 kit_tt ?_ | with_reducible refine cb_isi ty_I kit_ii ?_ | with_reducible refine cb_isi ty_I kit_ib ?_ | with_reducible refine cb_isi ty_B kit_bb ?_ | with_reducible refine cb_isi ty_S kit_ss ?_ | exact ⟨rfl, rfl⟩ | with_reducible refine ⟨_, rfl, ?_⟩ | refine ⟨_, _, _, rfl, ?_⟩ | refine ⟨_, _, _, _, rfl, ?_⟩)))
local macro_rules | `(tactic| bv_omega) => `(tactic| (first | with_reducible refine kn_seq ?_ | with_reducible refine kn_asg ?_ | with_reducible refine kn_ret ?_ | with_reducible refine kn_next ?_ | with_reducible refine we_op ?_ | with_reducible refine we_un ?_ | with_reducible refine wa_nil ?_ | with_reducible refine wa_cons ?_ | with_reducible refine we_cb ?_ | with_reducible refine we_callE ?_ | with_reducible refine we_callS ?_ | with_reducible refine we_cI ?_ | with_reducible refine we_cB ?_ | with_reducible refine we_cN ?_ | (with_reducible refine is_cS ?_; refine we_cS (asc_of (by decide)) ?_) | (with_reducible refine is_var ?_; refine we_var rfl ?_) | with_reducible refine wt_test ?_ | with_reducible refine wt_b ?_ | with_reducible refine wt_not ?_ | with_reducible refine we_not ?_ | with_reducible refine we_sl ?_ | with_reducible refine wo_none ?_ | with_reducible refine wo_some ?_ | with_reducible refine wt_yes ?_ | with_reducible refine ops_I0 ?_ | with_reducible refine ops_B0 ?_ | with_reducible refine uns_I ?_ | with_reducible refine ops_eqI ?_ | with_reducible refine ops_neI ?_ | with_reducible refine ops_eqS ?_ | with_reducible refine ops_neS ?_ | with_reducible refine ops_eqB ?_ | with_reducible refine ops_neB ?_ | with_reducible refine ops_inS seq_L ?_ | with_reducible refine ops_inS seq_T ?_ | with_reducible refine ops_ninS seq_L ?_ | with_reducible refine ops_ninS seq_T ?_ | with_reducible refine ops_inI seq_L ?_ | with_reducible refine ops_inI seq_T ?_ | with_reducible refine ops_ix20 ?_ | with_reducible refine ops_ix21 ?_ | with_reducible refine ops_ix30 ?_ | with_reducible refine ops_ix31 ?_ | with_reducible refine ops_ix32 ?_ | with_reducible refine cb_len seq_L ?_ | with_reducible refine cb_len seq_T ?_ | with_reducible refine cb_list seq_L ?_ | with_reducible refine cb_list seq_T ?_ | with_reducible refine cb_tupleL ?_ | with_reducible refine cb_tupleT ?_ | with_reducible refine cb_any ?_ | with_reducible refine cb_all ?_ | with_reducible refine cb_sum ?_ | with_reducible refine cb_int ?_ | with_reducible refine cb_abs ?_ | with_reducible refine we_fld ?_ | with_reducible refine we_dget ?_ | with_reducible refine we_din ?_ | with_reducible refine we_dnin ?_ | with_reducible refine we_met ?_ | with_reducible refine wi_list ?_ | with_reducible refine wi_tup ?_ | with_reducible refine wi_range ?_ | with_reducible refine wi_range2 ?_ | with_reducible refine kn_if ?_ | with_reducible refine kn_raise ?_ | with_reducible refine ⟨_, fldP_taken (by assumption), ?_⟩ | with_reducible refine ⟨_, fldP_given (by assumption), ?_⟩ | with_reducible refine ⟨_, fldP_places (by assumption), ?_⟩ | with_reducible refine ⟨_, fldP_begin (by assumption), ?_⟩ | with_reducible refine ⟨_, fldP_steps (by assumption), ?_⟩ | with_reducible refine ⟨_, _, _, _, dic_D, rfl, ?_⟩ | refine ⟨ins_plan rfl, ?_⟩ | with_reducible refine we_mk ?_ | with_reducible refine we_cT ?_ | with_reducible refine we_cR ?_ | with_reducible refine ops_isO ?_ | with_reducible refine ops_notO ?_ | with_reducible refine ops_isX ?_ | with_reducible refine ops_notX ?_ | with_reducible refine ops_isN ?_ | with_reducible refine ops_notN ?_ | with_reducible refine ops_eqD (by decide) ?_ | with_reducible refine ops_neD (by decide) ?_ | with_reducible apply wt_and | with_reducible apply wt_or | with_reducible refine im_t (fun _ => ?_) | with_reducible refine im_f (fun _ => ?_) | with_reducible refine im_tv (fun _ => ?_) | with_reducible refine im_fv (fun _ => ?_) | with_reducible refine cb_isi ty_L kit_ll ?_ | with_reducible refine cb_isi ty_T kit_tt ?_ | with_reducible refine cb_isi ty_2 kit_tt ?_ | with_reducible refine cb_isi ty_I kit_ii ?_ | with_reducible refine cb_isi ty_I kit_ib ?_ | with_reducible refine cb_isi ty_B kit_bb ?_ | with_reducible refine cb_isi ty_S kit_ss ?_ | exact ⟨rfl, rfl⟩ | with_reducible refine ⟨_, rfl, ?_⟩ | refine ⟨_, _, _, rfl, ?_⟩ | refine ⟨_, _, _, _, rfl, ?_⟩))
local macro_rules | `(tactic| nofun) => `(tactic| (repeat (first | with_reducible refine kn_seq ?_ | with_reducible refine kn_asg ?_ | with_reducible refine kn_ret ?_ | with_reducible refine kn_next ?_ | with_reducible refine we_op ?_ | with_reducible refine we_un ?_ | with_reducible refine wa_nil ?_ | with_reducible refine wa_cons ?_ | with_reducible refine we_cb ?_ | with_reducible refine we_callE ?_ | with_reducible refine we_callS ?_ | with_reducible refine we_cI ?_ | with_reducible refine we_cB ?_ | with_reducible refine we_cN ?_ | (with_reducible refine is_cS ?_; refine we_cS (asc_of (by decide)) ?_) | (with_reducible refine is_var ?_; first | refine we_varB rfl ?_ | refine we_varP (by assumption) rfl ?_ | refine we_var rfl ?_) | with_reducible refine wt_test ?_ | with_reducible refine wt_b ?_ | with_reducible refine wt_not ?_ | with_reducible refine we_not ?_ | with_reducible refine we_sl ?_ | with_reducible refine wo_none ?_ | with_reducible refine wo_some ?_ | with_reducible refine wt_yes ?_ | with_reducible refine ops_I0 ?_ | with_reducible refine ops_B0 ?_ | with_reducible refine uns_I ?_ | with_reducible refine ops_eqI ?_ | with_reducible refine ops_neI ?_ | with_reducible refine ops_eqS ?_ | with_reducible refine ops_neS ?_ | with_reducible refine ops_eqB ?_ | with_reducible refine ops_neB ?_ | with_reducible refine ops_inS seq_L ?_ | with_reducible refine ops_inS seq_T ?_ | with_reducible refine ops_ninS seq_L ?_ | with_reducible refine ops_ninS seq_T ?_ | with_reducible refine ops_inI seq_L ?_ | with_reducible refine ops_inI seq_T ?_ | with_reducible refine ops_ix20 ?_ | with_reducible refine ops_ix21 ?_ | with_reducible refine ops_ix30 ?_ | with_reducible refine ops_ix31 ?_ | with_reducible refine ops_ix32 ?_ | with_reducible refine cb_len seq_L ?_ | with_reducible refine cb_len seq_T ?_ | with_reducible refine cb_list seq_L ?_ | with_reducible refine cb_list seq_T ?_ | with_reducible refine cb_tupleL ?_ | with_reducible refine cb_tupleT ?_ | with_reducible refine cb_any ?_ | with_reducible refine cb_all ?_ | with_reducible refine cb_sum ?_ | with_reducible refine cb_int ?_ | with_reducible refine cb_abs ?_ | with_reducible refine we_fld ?_ | with_reducible refine we_dget ?_ | with_reducible refine we_din ?_ | with_reducible refine we_dnin ?_ | with_reducible refine we_met ?_ | with_reducible refine wi_list ?_ | with_reducible refine wi_tup ?_ | with_reducible refine wi_range ?_ | with_reducible refine wi_range2 ?_ | with_reducible refine kn_if ?_ | with_reducible refine kn_raise ?_ | with_reducible refine ⟨_, fldP_taken (by assumption), ?_⟩ | with_reducible refine ⟨_, fldP_given (by assumption), ?_⟩ | with_reducible refine ⟨_, fldP_places (by assumption), ?_⟩ | with_reducible refine ⟨_, fldP_begin (by assumption), ?_⟩ | with_reducible refine ⟨_, fldP_steps (by assumption), ?_⟩ | with_reducible refine ⟨_, _, _, _, dic_D, rfl, ?_⟩ | refine ⟨ins_plan rfl, ?_⟩ | with_reducible refine we_mk ?_ | with_reducible refine we_cT ?_ | with_reducible refine we_cR ?_ | with_reducible refine ops_isO ?_ | with_reducible refine ops_notO ?_ | with_reducible refine ops_isX ?_ | with_reducible refine ops_notX ?_ | with_reducible refine ops_isN ?_ | with_reducible refine ops_notN ?_ | with_reducible refine ops_eqD (by decide) ?_ | with_reducible refine ops_neD (by decide) ?_ | with_reducible apply wt_and | with_reducible apply wt_or | with_reducible refine im_t (fun _ => ?_) | with_reducible refine im_f (fun _ => ?_) | with_reducible refine im_tv (fun _ => ?_) | with_reducible refine im_fv (fun _ => ?_) | with_reducible refine cb_isi ty_L kit_ll ?_ | with_reducible refine cb_isi ty_T kit_tt ?_ | with_reducible refine cb_isi ty_2 kit_tt ?_ | with_reducible refine cb_isi ty_I kit_ii ?_ | with_reducible refine cb_isi ty_I kit_ib ?_ | with_reducible refine cb_isi ty_B kit_bb ?_ | with_reducible refine cb_isi ty_S kit_ss ?_ | exact ⟨rfl, rfl⟩ | with_reducible refine ⟨_, rfl, ?_⟩ | refine ⟨_, _, _, rfl, ?_⟩ | refine ⟨_, _, _, _, rfl, ?_⟩)))
local macro_rules | `(tactic| and_intros) => `(tactic| (repeat (first | exact .nil | refine .cons (.inr rfl) ?_ | refine .cons (.inl rfl) ?_)))
local macro_rules | `(tactic| subst_vars) => `(tactic| (try dsimp only [List.set, List.eraseIdx, L2.envOf, List.map, Option.map]))
def topS (i : Nat) : Stmt := PySem.Challenge.pw_heldsteps_k62_whole_plan_texts_round.main.body.getD i (.Pass ⟨0, 0, 0, 0⟩)
section
variable {P : Program} {w : World} {K : PySem.W.Frag} {mg : Str → Option Value} {base : Heap}
def m_draw (m : Int) : DM Int := fun Q _ => drawD m Q
theorem fmod_box {x m : Int} (h : 0 < m) : 0 ≤ x.fmod m ∧ x.fmod m < m := ⟨Int.fmod_nonneg_of_pos _ h, Int.fmod_lt_of_pos _ h⟩
theorem big200 {m : Int} (h0 : 0 < m) (h : m ≤ 10 ^ 40) : m.natAbs < 2 ^ 200 := by
  have e : (10 : Int) ^ 40 < 2 ^ 200 := by decide
  have e2 : ((2 ^ 200 : Nat) : Int) = 2 ^ 200 := by decide
  omega
abbrev s__law_bag : Stmt := topS 36
theorem sc__law_bag : FnScope ["_law_script", "_law_cell"] ["_law_script"] (defScope s__law_bag) := ⟨rfl, rfl, rfl, by decide +kernel, rfl, by decide +kernel, by decide +kernel⟩
theorem ok__law_bag {k : Nat} (B : Bl mg) (F : Src K mg "_law_bag" s__law_bag ["_law_script"]) : Def P w K mg base CX0 (k + 1) "_law_bag" ["_law_script"] (spN (preBag K 4)) := by
  refine F.okN sc__law_bag (fun qs out err ⟨_, h, _⟩ => by rw [h]; rfl) (fun f cdv A outer s H E qs out err hr ⟨ns, e1, e2, e3⟩ => ?_)
  subst e1 e2 e3
  refine ⟨_, (pss_one (ps_ret (pe_lst (pa_cons (pe_lc (own := [("_law_cell", 1)]) (g := gName 1) (by rfl) sc__law_bag.nd (kpi_list (K := K) (pv 0)) (blkOk_by (N := ["_law_script", "_law_cell"]) (sc := defScope s__law_bag) (by decide +kernel)) (fun _ _ _ _ _ => (pg_name (i := 1) sc__law_bag.nd rfl (Or.inl rfl))) (fun _ _ _ _ _ => pts_nil) (fun _ _ _ _ _ => (pe_callTy call_int1 (by rfl) B.int' (by decide +kernel) (pa_cons (pv 1) pa_nil)))) (pa_cons pe_int (pa_cons pe_int (pa_cons pe_int (pa_cons pe_int pa_nil)))))))), fun fr Q hret => ?_⟩
  refine kn_ret (we_bag (m := 4) (wa_cons (we_lcM0 (r := zI) (s := zI) (wi_scr (we_var rfl ⟨ns, rfl, fun e => ⟨_, fun x => x, _, rfl, rfl, e, fun x => tg_name, fun x c => we_cb (wa_cons (we_var rfl (wa_nil (cb_int ⟨rfl, rfl⟩)))), ?_⟩⟩)))))
  refine wa_cons (we_cI (wa_cons (we_cI (wa_cons (we_cI (wa_cons (we_cI (wa_nil ⟨_, [0, 0, 0, 7], rfl, rfl, by decide, fun i h => ?_, fun b l => ?_⟩))))))))
  · cases h
    decide
  · exact hret _ _ ⟨b, l, rfl, rfl⟩ (fun c hc => by rw [List.mem_singleton.mp hc]; rfl) _ [] (by simp)
abbrev s__law_draw : Stmt := topS 37
theorem sc__law_draw : FnScope ["_law_bag_here", "_law_many", "_law_cell", "_law_digit"] ["_law_bag_here", "_law_many"] (defScope s__law_draw) := ⟨rfl, rfl, rfl, by decide +kernel, rfl, by decide +kernel, by decide +kernel⟩
theorem ok__law_draw {k : Nat} (B : Bl mg) (F : Src K mg "_law_draw" s__law_draw ["_law_bag_here", "_law_many"]) : Def P w K mg base CX0 (k + 1) "_law_draw" ["_law_bag_here", "_law_many"] (spC (preK (cBag 4) (preBW (fun x : Int => [iz zI x]) zI m_draw))) := by
  refine F.okKW (fun _ _ => rfl) sc__law_draw (fun _ => rfl) (fun f cdv A outer s H E b l m Q hr h => ⟨_, (pss_cons (ps_asg (pe_op op_add (pe_ix (kix_list (K := K)) (pv 0) pe_int (fun _ _ => rfl)) pe_int) (pg_sub (pv 0) pe_int set_list))
 (C8.pss_cut (ps_if (PW.pt (pw_and (pt_cmpR op_eq (pe_ix (kix_list (K := K)) (pv 0) pe_int (fun _ _ => rfl)) pe_int (nomark _)) (pw_and1 (pt_cmpR op_lt (pe_ix (kix_list (K := K)) (pv 0) pe_int (fun _ _ => rfl)) (pe_callB (kcall_len (K := K)) (by rfl) B.len PySem.boot_len (pa_cons (pe_ix (kix_list (K := K)) (pv 0) pe_int (fun _ _ => rfl)) pa_nil)) (nomark _))))) (pss_cons (ps_asg (pe_ix (kix_list (K := K)) (pe_ix (kix_list (K := K)) (pv 0) pe_int (fun _ _ => rfl)) (pe_ix (kix_list (K := K)) (pv 0) pe_int (fun _ _ => rfl)) (fun _ _ => rfl)) (pg_name (i := 2) sc__law_draw.nd rfl (Or.inl rfl)))
 (pss_cons (ps_asg (pe_op op_add (pe_ix (kix_list (K := K)) (pv 0) pe_int (fun _ _ => rfl)) pe_int) (pg_sub (pv 0) pe_int set_list))
 (pss_one (ps_if (pt_cmpR op_ge (pv 2) (pe_op op_pow pe_int pe_int) (nomark _)) (pss_one (ps_asg (pv 2) (pg_sub (pv 0) pe_int set_list))) (pss_one (ps_asg (pe_op op_modN (pe_callTy call_int1 (by rfl) B.int' (by decide +kernel) (pa_cons (pe_op op_add (pe_op op_mul (pe_ix (kix_list (K := K)) (pv 0) pe_int (fun _ _ => rfl)) pe_int) (pv 2)) pa_nil)) pe_int) (pg_sub (pv 0) pe_int set_list))))))) pss_nil)
 (pss_cons (ps_if (pt_cmpR op_gt (pe_ix (kix_list (K := K)) (pv 0) pe_int (fun _ _ => rfl)) pe_int (nomark _)) (pss_cons (ps_asg (pe_op op_modN (pe_callTy call_int1 (by rfl) B.int' (by decide +kernel) (pa_cons (pe_ix (kix_list (K := K)) (pv 0) pe_int (fun _ _ => rfl)) pa_nil)) (pv 1)) (pg_name (i := 3) sc__law_draw.nd rfl (Or.inl rfl)))
 (pss_cons (ps_asg (pe_op op_fdivW (pe_ix (kix_list (K := K)) (pv 0) pe_int (fun _ _ => rfl)) (pv 1)) (pg_sub (pv 0) pe_int set_list))
 (pss_one (ps_ret (pv 3))))) pss_nil)
 (pss_cons (ps_asg (pe_op op_modN (pe_callTy call_int1 (by rfl) B.int' (by decide +kernel) (pa_cons (pe_op op_add (pe_op op_add (pe_op op_mul (pe_ix (kix_list (K := K)) (pv 0) pe_int (fun _ _ => rfl)) pe_int) (pe_op op_mul (pe_ix (kix_list (K := K)) (pv 0) pe_int (fun _ _ => rfl)) pe_int)) pe_int) pa_nil)) pe_int) (pg_sub (pv 0) pe_int set_list))
 (pss_one (ps_ret (pe_op op_modN (pe_callTy call_int1 (by rfl) B.int' (by decide +kernel) (pa_cons (pe_op op_fdivN (pe_op op_modN (pe_callTy call_int1 (by rfl) B.int' (by decide +kernel) (pa_cons (pe_op op_add (pe_op op_mul (pe_ix (kix_list (K := K)) (pv 0) pe_int (fun _ _ => rfl)) pe_int) (pe_op op_mul (pe_ix (kix_list (K := K)) (pv 0) pe_int (fun _ _ => rfl)) pe_int)) pa_nil)) pe_int) pe_int) pa_nil)) (pv 1)))))))), fun fr Qv hret => ?_⟩)
  obtain ⟨m0, m1, h⟩ := h
  refine kn_bag (j := 0) rfl fun ns is hl hi => ?_
  obtain ⟨i, c, n, r, rfl⟩ : ∃ i c n r, is = [i, c, n, r] := by
    match is, hl with
    | [i, c, n, r], _ => exact ⟨i, c, n, r, rfl⟩
  have hi := hi i rfl
  refine kn_seq (kb_set (i := 0) (m := 2) (j := 0) rfl (we_op (we_op (we_var rfl (we_cI (ob_ix (j := 0) (m := 2) rfl rfl rfl (we_cI (ops_I0 (we_cI ⟨_, _, rfl, rfl, rfl, by simp, rfl, ?_⟩)))))))))
  try dsimp only
  refine kn_cut (fun Γ Θ => ∃ i c r : Int, 0 ≤ i ∧ Γ = [some (zAt b), some (iz zI m), none, none] ∧ Θ = [cBg b l ns [i, c, n + 1, r]]) ?_ ?_
  · refine kn_if (wt_and (b := decide (c = 0)) (c := decide (i < (ns.length : Int))) ?_ (fun _ => ?_) ⟨fun hc => ?_, fun hc => ?_⟩)
    · exact wt_test (we_op (we_op (we_var rfl (we_cI (ob_ix (j := 0) (m := 1) rfl rfl rfl (we_cI (ops_eqI ⟨_, rfl, ⟨rfl, rfl⟩⟩)))))))
    · refine wt_test (we_op (we_op (we_var rfl (we_cI (ob_ix (j := 0) (m := 0) rfl rfl rfl ?_)))))
      refine we_cb (wa_cons (we_op (we_var rfl (we_cI (ob_ix0 (j := 0) rfl (wa_nil ?_))))))
      exact cy_len sy_L fun e => ops_B0 ⟨_, rfl, ⟨rfl, rfl⟩⟩
    · rw [Bool.and_eq_true, decide_eq_true_iff, decide_eq_true_iff] at hc
      obtain ⟨j, rfl⟩ : ∃ j : Nat, i = j := ⟨i.toNat, by omega⟩
      have hj : j < ns.length := by omega
      refine kn_seq (kn_asg (we_op (we_op (we_var rfl (we_cI (ob_ix0 (j := 0) rfl (we_op (we_var rfl (we_cI (ob_ix (j := 0) (m := 0) rfl rfl rfl (oy_ixL (atI_nat (List.getElem?_eq_getElem hj)) ?_)))))))))))
      try dsimp only
      refine kn_seq (kb_set (i := 0) (m := 0) (j := 0) rfl (we_op (we_op (we_var rfl (we_cI (ob_ix (j := 0) (m := 0) rfl rfl rfl (we_cI (ops_I0 (we_cI ⟨_, _, rfl, rfl, rfl, by simp, rfl, ?_⟩)))))))))
      try dsimp only
      refine kn_if (wt_test (we_op (we_var rfl (we_op (we_cI (we_cI (ops_IC ⟨by decide, by decide, by decide⟩ (ops_B0 ⟨_, rfl, ⟨fun _ => ?_, fun _ => ?_⟩⟩))))))))
      · refine kb_set (i := 0) (m := 1) (j := 0) rfl (we_var rfl (we_cI ⟨_, _, rfl, rfl, rfl, by simp, rfl, ?_⟩))
        exact kn_mid ⟨_, by and_intros, _, _, _, by omega, rfl, rfl⟩
      · refine kb_set (i := 0) (m := 3) (j := 0) rfl (we_op (we_cb (wa_cons (we_op (we_op (we_op (we_var rfl (we_cI (ob_ix (j := 0) (m := 3) rfl rfl rfl (we_cI (ops_IC (.inr ⟨by decide, by decide⟩) (we_var rfl (ops_I0 (wa_nil (cb_int (we_cI (ops_IC (C := fun _ j => j ≠ 0) (by decide) (we_cI ⟨_, _, rfl, rfl, rfl, by simp, rfl, ?_⟩))))))))))))))))))
        exact kn_mid ⟨_, by and_intros, _, _, _, by omega, rfl, rfl⟩
    · refine kn_next ?_
      exact kn_mid ⟨_, by and_intros, i, c, r, hi, rfl, rfl⟩
  · rintro Γ Θ ⟨i, c, r, hi, rfl, rfl⟩
    have fin : ∀ {fr' : L2.Fr} {is : List Int} {v : Int}, FrLe fr fr' → is.length = 4 → (∀ i, is[0]? = some i → 0 ≤ i) → 0 ≤ v → v < m → Rt fr' [cBg b l ns is] Qv (iz zI v) := fun {fr' is v} le h1 h2 h3 h4 => rt_bag (j := 0) rfl h1 h2 ((hret.fine le) _ (h v h3 h4) _ (.head _))
    have le0 : FrLe fr fr := ⟨rfl, rfl, Same.refl _, fun a o h => .inl ⟨o, h⟩⟩
    refine kn_seq (kn_if (wt_test (we_op (we_op (we_var rfl (we_cI (ob_ix (j := 0) (m := 1) rfl rfl rfl (we_cI (ops_B0 ⟨_, rfl, ⟨fun hc => ?_, fun hc => ?_⟩⟩)))))))))
    · have hc : c > 0 := of_decide_eq_true hc
      refine kn_seq (kn_asg (we_op (we_cb (wa_cons (we_op (we_var rfl (we_cI (ob_ix (j := 0) (m := 1) rfl rfl rfl (wa_nil (cb_int (we_var rfl (ops_IC (C := fun _ j => j ≠ 0) (by omega) ?_))))))))))))
      try dsimp only
      refine kn_seq (kb_set (i := 0) (m := 1) (j := 0) rfl (we_op (we_op (we_var rfl (we_cI (ob_ix (j := 0) (m := 1) rfl rfl rfl (we_var rfl (ops_IC (wide_div (b := 200) m0 (big200 m0 m1) (by decide) (by decide)) (we_cI ⟨_, _, rfl, rfl, rfl, by simp, rfl, ?_⟩)))))))))
      try dsimp only
      refine kn_ret (we_var rfl ?_)
      have fb := fmod_box (x := c) m0
      exact fin le0 rfl (fun j hj => by cases hj; exact hi) fb.1 fb.2
    · refine kn_next ?_
      try dsimp only
      refine kn_seq (kb_set (i := 0) (m := 3) (j := 0) rfl (we_op (we_cb (wa_cons (we_op (we_op (we_op (we_op (we_var rfl (we_cI (ob_ix (j := 0) (m := 3) rfl rfl rfl (we_cI (ops_IC (.inr ⟨by decide, by decide⟩) (we_op (we_op (we_var rfl (we_cI (ob_ix (j := 0) (m := 2) rfl rfl rfl (we_cI (ops_IC (.inr ⟨by decide, by decide⟩) (ops_I0 (we_cI (ops_I0 (wa_nil (cb_int (we_cI (ops_IC (C := fun _ j => j ≠ 0) (by decide) (we_cI ⟨_, _, rfl, rfl, rfl, by simp, rfl, ?_⟩))))))))))))))))))))))))))))
      try dsimp only
      refine kn_ret (we_op (we_cb (wa_cons (we_op (we_op (we_cb (wa_cons (we_op (we_op (we_op (we_var rfl (we_cI (ob_ix (j := 0) (m := 3) rfl rfl rfl (we_cI (ops_IC (.inr ⟨by decide, by decide⟩) (we_op (we_op (we_var rfl (we_cI (ob_ix (j := 0) (m := 2) rfl rfl rfl (we_cI (ops_IC (.inr ⟨by decide, by decide⟩) (ops_I0 (wa_nil (cb_int (we_cI (ops_IC (C := fun _ j => j ≠ 0) (by decide) (we_cI (ops_IC ⟨by decide, by decide⟩ (wa_nil (cb_int (we_var rfl (ops_IC (C := fun _ j => j ≠ 0) (by omega) ?_)))))))))))))))))))))))))))))))))
      have fb := fmod_box (x := Int.fdiv (Int.fmod (Int.fmod (r * 48271 + (n + 1) * 69621 + 11) 2147483647 * 16807 + (n + 1) * 40692) 2147483629) 5) m0
      exact fin le0 rfl (fun j hj => by cases hj; exact hi) fb.1 fb.2
end
section
variable {P : Program} {w : World} {K : PySem.W.Frag} {mg : Str → Option Value} {base : Heap}
abbrev s__law_word : Stmt := topS 38
theorem sc__law_word : FnScope ["_law_bag_here", "_law_used", "_law_signs", "_law_base", "_law_k", "_law_word_here"] ["_law_bag_here", "_law_used"] (defScope s__law_word) := ⟨rfl, rfl, rfl, by decide +kernel, rfl, by decide +kernel, by decide +kernel⟩
def m__law_word (p_law_used : (List Str)) : DM Str := fun Q X =>
  m_draw (26 : Int) (fun v1 =>
  ∃ v2, atI (("abcdefghijklmnopqrstuvwxyz0123456789" : Str)).cps.toList v1 = some v2 ∧
  ∀ base3, base3 = (⟨#[v2]⟩ : Str) →
  m_draw (4 : Int) (fun v6 =>
  m_draw (4 : Int) (fun v7 =>
  CMul v6 v7 ∧
  (-100000 ≤ (v6 * v7) ∧ (v6 * v7) ≤ 100000) ∧
  forD (intsF 0 ((v6 * v7)).toNat) base3 (fun x5 s4 nx bk =>
  m_draw (36 : Int) (fun v10 =>
  ∃ v11, atI (("abcdefghijklmnopqrstuvwxyz0123456789" : Str)).cps.toList v10 = some v11 ∧
  (s4).length + ((⟨#[v11]⟩ : Str)).length ≤ big ∧
  ∀ base13, base13 = (s4 ++ (⟨#[v11]⟩ : Str)) →
  nx base13) noX) (fun s4 =>
  forD (intsF 0 (((p_law_used).length : Int)).toNat) s4 (fun x15 s14 nx bk =>
  ifD (!decide (s14 ∈ p_law_used)) (
  Q s14) (
  CStr x15 ∧
  (s4).length + ((numS x15)).length ≤ big ∧
  ∀ word19, word19 = (s4 ++ (numS x15)) →
  nx word19)) (fun s14 =>
  Q s14))) noX) noX) noX
theorem ok__law_word {k : Nat} {cs : EK → Addr} (B : Bl mg) (D__law_draw : Def P w K mg base CX0 k "_law_draw" ["_law_bag_here", "_law_many"] (spC (preK (cBag 4) (preBW (fun x : Int => [iz zI x]) zI m_draw))))
    (F : Src K mg "_law_word" s__law_word ["_law_bag_here", "_law_used"]) : Def P w K mg base CX0 (k + 1) "_law_word" ["_law_bag_here", "_law_used"] (spC (preK (cBag 4) (preBW (fun x : (List Str) => [iz (yL yS) x]) yS (fun x => m__law_word x)))) := by
  refine F.okKW (fun _ _ => rfl) sc__law_word (fun _ => rfl) (fun f cdv A outer s H E b l p_law_used Q hr h => ⟨_, (pss_cons (ps_asg pe_str (pg_name (i := 2) sc__law_word.nd rfl (Or.inl rfl)))
 (pss_cons (ps_asg (pe_ix ix_str (pv 2) (pe_def D__law_draw hr pass0 (pa_cons (pv 0) (pa_cons pe_int pa_nil))) (fun _ _ => rfl)) (pg_name (i := 3) sc__law_word.nd rfl (Or.inl rfl)))
 (pss_cons (ps_for PassesOwn.never rfl (pi_range1 (by rfl) B.range (pa_cons (pe_op op_mul (pe_def D__law_draw hr pass0 (pa_cons (pv 0) (pa_cons pe_int pa_nil))) (pe_def D__law_draw hr pass0 (pa_cons (pv 0) (pa_cons pe_int pa_nil)))) pa_nil)) (pg_name (i := 4) sc__law_word.nd rfl (Or.inl rfl)) (pss_one (ps_asg (pe_op op_add_str (pv 3) (pe_ix ix_str (pv 2) (pe_def D__law_draw hr pass0 (pa_cons (pv 0) (pa_cons pe_int pa_nil))) (fun _ _ => rfl))) (pg_name (i := 3) sc__law_word.nd rfl (Or.inl rfl)))))
 (pss_cons (ps_asg (pv 3) (pg_name (i := 5) sc__law_word.nd rfl (Or.inl rfl)))
 (pss_cons (ps_for PassesOwn.never rfl (pi_range1 (by rfl) B.range (pa_cons (pe_callB (kcall_len (K := K)) (by rfl) B.len PySem.boot_len (pa_cons (pv 1) pa_nil)) pa_nil)) (pg_name (i := 4) sc__law_word.nd rfl (Or.inl rfl)) (pss_cons (ps_if (pt_cmpR (kop_notIn (K := K)) (pv 5) (pv 1) rfl) (pss_one (ps_ret (pv 5))) pss_nil)
 (pss_one (ps_asg (pe_op op_add_str (pv 3) (pe_callTy call_str_int (by rfl) B.str' (by decide +kernel) (pa_cons (pv 4) pa_nil))) (pg_name (i := 5) sc__law_word.nd rfl (Or.inl rfl))))))
 (pss_one (ps_ret (pv 5)))))))), fun fr Qv hret => ?_⟩)
  replace h : m__law_word p_law_used Q noX := h
  unfold m__law_word at h
  refine kn_seq (kn_asg (i := 2) (we_cSy (z := "abcdefghijklmnopqrstuvwxyz0123456789") (asc_of (by decide)) (by decide) ?_))
  refine kn_nrm (Γ' := [some (zAt b), some (iz (yL yS) p_law_used), some (iz yS ("abcdefghijklmnopqrstuvwxyz0123456789" : Str)), none, none, none]) rfl ?_
  try dsimp only
  refine kn_seq (kn_asgL (i := 3) (r := yS) (we_op (we_var rfl (we_callE (wa_cons (we_var rfl (wa_cons (we_cI (wa_nil ?_)))))))))
  refine sps_KW (mk := cBag 4) (j := 0) rfl (26 : Int) h (fun v1 h => ?_)
  obtain ⟨v2, ev2, h⟩ := h
  refine oy_ixS ev2 (⟨_, rfl, fun base3 ebase3 => ?_⟩)
  have h := h base3 ebase3
  refine kn_nrm (Γ' := [some (zAt b), some (iz (yL yS) p_law_used), some (iz yS ("abcdefghijklmnopqrstuvwxyz0123456789" : Str)), some (iz yS base3), none, none]) rfl ?_
  try dsimp only
  refine kn_seq (kn_forW (r := zI) (S := Str) (fun s4 => [some (zAt b), some (iz (yL yS) p_law_used), some (iz yS ("abcdefghijklmnopqrstuvwxyz0123456789" : Str)), some (iz yS s4), none, none]) (fun s4 => [cBag 4 b l]) base3 (wi_range (wa_cons (we_op (we_callE (wa_cons (we_var rfl (wa_cons (we_cI (wa_nil ?_))))))))))
  refine sps_KW (mk := cBag 4) (j := 0) rfl (4 : Int) h (fun v6 h => ?_)
  refine we_callE (wa_cons (we_var rfl (wa_cons (we_cI (wa_nil ?_)))))
  refine sps_KW (mk := cBag 4) (j := 0) rfl (4 : Int) h (fun v7 h => ?_)
  obtain ⟨g8, h⟩ := h
  refine ops_IC g8 (wa_nil ?_)
  obtain ⟨g9, h⟩ := h
  refine ⟨_, rfl, (by have hb : big = 100000 := rfl; omega), (by have hb : big = 100000 := rfl; omega), ⟨_, _, _, _, _, rfl, rfl, (by and_intros), fun _ _ => tg_name, h, fun fr' le x5 s4 nx M hnx hbk h => ?_, fun s4 h => ?_⟩⟩
  · have hret := hret.fine le
    refine kn_asgL (i := 3) (r := yS) (we_op (we_var rfl (we_op (we_var rfl (we_callE (wa_cons (we_var rfl (wa_cons (we_cI (wa_nil ?_))))))))))
    refine sps_KW (mk := cBag 4) (j := 0) rfl (36 : Int) h (fun v10 h => ?_)
    obtain ⟨v11, ev11, h⟩ := h
    refine oy_ixS ev11 ?_
    obtain ⟨g12, h⟩ := h
    refine oy_addS g12 (⟨_, rfl, fun base13 ebase13 => ?_⟩)
    have h := h base13 ebase13
    exact hnx base13 _ _ h (by and_intros) rfl
  try dsimp only
  refine kn_seq (kn_asg (i := 5) (we_var rfl ?_))
  refine kn_nrm (Γ' := [some (zAt b), some (iz (yL yS) p_law_used), some (iz yS ("abcdefghijklmnopqrstuvwxyz0123456789" : Str)), some (iz yS s4), none, some (iz yS s4)]) rfl ?_
  try dsimp only
  refine kn_seq (kn_forW (r := zI) (S := Str) (fun s14 => [some (zAt b), some (iz (yL yS) p_law_used), some (iz yS ("abcdefghijklmnopqrstuvwxyz0123456789" : Str)), some (iz yS s4), none, some (iz yS s14)]) (fun s14 => [cBag 4 b l]) s4 (wi_range (wa_cons (we_cb (wa_cons (we_var rfl (wa_nil (cy_len sy_L (fun e16 => (wa_nil (⟨_, rfl, (by have hb : big = 100000 := rfl; omega), (by have hb : big = 100000 := rfl; omega), ⟨_, _, _, _, _, rfl, rfl, (by and_intros), fun _ _ => tg_name, h, fun fr' le x15 s14 nx M hnx hbk h => ?_, fun s14 h => ?_⟩⟩)))))))))))
  · have hret := hret.fine le
    refine kn_seq (kn_if (wt_test (we_op (we_var rfl (we_var rfl (oy_ninS sy_L (⟨_, rfl, ⟨fun hc => ?_, fun hc => ?_⟩⟩)))))))
    · have h := h.1 hc
      refine kn_ret (we_var rfl ?_)
      exact hret _ h _ (List.mem_of_getElem? (i := 0) rfl)
    · have h := h.2 hc
      refine kn_next ?_
      try dsimp only
      refine kn_asgL (i := 5) (r := yS) (we_op (we_var rfl (we_cb (wa_cons (we_var rfl (wa_nil ?_))))))
      obtain ⟨g17, h⟩ := h
      refine cy_str g17 ?_
      obtain ⟨g18, h⟩ := h
      refine oy_addS g18 (⟨_, rfl, fun word19 eword19 => ?_⟩)
      have h := h word19 eword19
      exact hnx word19 _ _ h (by and_intros) rfl
  try dsimp only
  refine kn_ret (we_var rfl ?_)
  exact hret _ h _ (List.mem_of_getElem? (i := 0) rfl)
abbrev s__law_subset : Stmt := topS 40
theorem sc__law_subset : FnScope ["_law_bag_here", "_law_words", "_law_least", "_law_chosen", "_law_word_here"] ["_law_bag_here", "_law_words", "_law_least"] (defScope s__law_subset) := ⟨rfl, rfl, rfl, by decide +kernel, rfl, by decide +kernel, by decide +kernel⟩
def m__law_subset (p_law_words : (List Str)) (p_law_least : Int) : DM (List Str) := fun Q X =>
  forD p_law_words ([]) (fun x3 s2 nx bk =>
  m_draw (3 : Int) (fun v5 =>
  ifD (decide (v5 = (0 : Int))) (
  (s2).length < big ∧
  nx (s2 ++ [x3])) (
  nx s2)) noX) (fun s2 =>
  joinD (fun j8 =>
  ifD (decide (((s2).length : Int) < p_law_least)) (
  m_draw ((p_law_words).length : Int) (fun v11 =>
  ∃ v12, atI p_law_words v11 = some v12 ∧
  ∀ chosen13, chosen13 = [v12] →
  j8 chosen13) noX) (
  j8 s2)) (fun s7 : (List Str) =>
  Q s7))
theorem ok__law_subset {k : Nat} {cs : EK → Addr} (B : Bl mg) (D__law_draw : Def P w K mg base CX0 k "_law_draw" ["_law_bag_here", "_law_many"] (spC (preK (cBag 4) (preBW (fun x : Int => [iz zI x]) zI m_draw))))
    (F : Src K mg "_law_subset" s__law_subset ["_law_bag_here", "_law_words", "_law_least"]) : Def P w K mg base CX0 (k + 1) "_law_subset" ["_law_bag_here", "_law_words", "_law_least"] (spC (preK (cBag 4) (preBW (fun x : (List Str) × Int => [iz (yL yS) x.1, iz zI x.2]) (yL yS) (fun x => m__law_subset x.1 x.2)))) := by
  refine F.okKW (fun _ _ => rfl) sc__law_subset (fun _ => rfl) (fun f cdv A outer s H E b l x Q hr h => ⟨_, (pss_cons (ps_asg (pe_lst pa_nil) (pg_name (i := 3) sc__law_subset.nd rfl (Or.inl rfl)))
 (pss_cons (ps_for PassesOwn.never rfl (kpi_list (K := K) (pv 1)) (pg_name (i := 4) sc__law_subset.nd rfl (Or.inl rfl)) (pss_one (ps_if (pt_cmpR op_eq (pe_def D__law_draw hr pass0 (pa_cons (pv 0) (pa_cons pe_int pa_nil))) pe_int (nomark _)) (pss_one (ps_expr (pe_bm PySem.F.plainAttrs_list PySem.F.slot_list_append PySem.F.type_list_append mt_append (pv 3) (pa_cons (pv 4) pa_nil)))) pss_nil)))
 (C8.pss_cut (ps_if (pt_cmpR op_lt (pe_callB (kcall_len (K := K)) (by rfl) B.len PySem.boot_len (pa_cons (pv 3) pa_nil)) (pv 2) (nomark _)) (pss_one (ps_asg (pe_lst (pa_cons (pe_ix (kix_list (K := K)) (pv 1) (pe_def D__law_draw hr pass0 (pa_cons (pv 0) (pa_cons (pe_callB (kcall_len (K := K)) (by rfl) B.len PySem.boot_len (pa_cons (pv 1) pa_nil)) pa_nil))) (fun _ _ => rfl)) pa_nil)) (pg_name (i := 3) sc__law_subset.nd rfl (Or.inl rfl)))) pss_nil)
 (pss_one (ps_ret (pv 3)))))), fun fr Qv hret => ?_⟩)
  obtain ⟨p_law_words, p_law_least⟩ := x
  replace h : m__law_subset p_law_words p_law_least Q noX := h
  unfold m__law_subset at h
  refine kn_seq (kn_asg (i := 3) (we_ownY yS (wa_nil (⟨[], rfl, Nat.le_of_ble_eq_true rfl, fun a1 => ?_⟩))))
  refine kn_nrm (Γ' := [some (zAt b), some (iz (yL yS) p_law_words), some (iz zI p_law_least), some (zAt a1), none]) rfl ?_
  try dsimp only
  refine kn_seq (kn_forW (r := yS) (S := (List Str)) (fun s2 => [some (zAt b), some (iz (yL yS) p_law_words), some (iz zI p_law_least), some (zAt a1), none]) (fun s2 => [cY a1 yS s2, cBag 4 b l]) ([]) (wi_yL (we_var rfl (⟨_, _, _, rfl, fun e4 => ⟨_, _, _, _, _, rfl, rfl, (by and_intros), fun _ _ => tg_name, h, fun fr' le x3 s2 nx M hnx hbk h => ?_, fun s2 h => ?_⟩⟩))))
  · have hret := hret.fine le
    refine kn_if (wt_test (we_op (we_callE (wa_cons (we_var rfl (wa_cons (we_cI (wa_nil ?_))))))))
    refine sps_KW (mk := cBag 4) (j := 1) rfl (3 : Int) h (fun v5 h => ?_)
    refine we_cI (ops_eqI (⟨_, rfl, ⟨fun hc => ?_, fun hc => ?_⟩⟩))
    · have h := h.1 hc
      refine kn_appY (i := 3) (j := 0) rfl rfl (we_var rfl ?_)
      obtain ⟨g6, h⟩ := h
      refine ⟨_, rfl, rfl, g6, ?_⟩
      exact hnx (s2 ++ [x3]) _ _ h (by and_intros) rfl
    · have h := h.2 hc
      refine kn_next ?_
      exact hnx s2 _ _ h (by and_intros) rfl
  try dsimp only
  refine kn_frzY (i := 3) (j := 0) rfl rfl ?_
  refine kn_cutW (S := (List Str)) (fun s7 => [some (zAt b), some (iz (yL yS) p_law_words), some (iz zI p_law_least), some (iz (yL yS) s7), none]) (fun s7 => [cBag 4 b l]) h (fun M hjn h => ?_) (fun s7 h => ?_)
  · refine kn_if (wt_test (we_op (we_cb (wa_cons (we_var rfl (wa_nil (cy_len sy_L (fun e9 => (we_var rfl (ops_B0 (⟨_, rfl, ⟨fun hc => ?_, fun hc => ?_⟩⟩)))))))))))
    · have h := h.1 hc
      refine kn_asgL (i := 3) (r := (yL yS)) (we_lstY (r := yS) (wa_cons (we_op (we_var rfl (we_callE (wa_cons (we_var rfl (wa_cons (we_cb (wa_cons (we_var rfl (wa_nil (cy_len sy_L (fun e10 => (wa_nil ?_)))))))))))))))
      refine sps_KW (mk := cBag 4) (j := 0) rfl ((p_law_words).length : Int) h (fun v11 h => ?_)
      obtain ⟨v12, ev12, h⟩ := h
      refine oy_ixL ev12 (wa_nil (⟨[v12], rfl, Nat.le_of_ble_eq_true rfl, ⟨_, rfl, fun chosen13 echosen13 => ?_⟩⟩))
      have h := h chosen13 echosen13
      exact hjn chosen13 _ _ h (by and_intros) rfl
    · have h := h.2 hc
      refine kn_next ?_
      exact hjn s2 _ _ h (by and_intros) rfl
  try dsimp only
  refine kn_ret (we_var rfl ?_)
  exact hret _ h _ (List.mem_of_getElem? (i := 0) rfl)
abbrev s__law_any : Stmt := topS 41
theorem sc__law_any : FnScope ["_law_bag_here", "_law_most", "_law_reach", "_law_places", "_law_k", "_law_words", "_law_steps", "_law_name", "_law_row"] ["_law_bag_here", "_law_most", "_law_reach"] (defScope s__law_any) := ⟨rfl, rfl, rfl, by decide +kernel, rfl, by decide +kernel, by decide +kernel⟩
def m__law_any (p_law_most : (List Int)) (p_law_reach : Int) : DM ((List (Str × Int)) × (List (Str × (List Str) × (List Str)))) := fun Q X =>
  ∃ v4, atI p_law_most (0 : Int) = some v4 ∧
  (-100000 ≤ v4 ∧ v4 ≤ 100000) ∧
  forD (intsF 0 (v4).toNat) ([]) (fun x3 s2 nx bk =>
  m__law_word ((s2).map fun x6 => x6.1) (fun v8 =>
  m_draw p_law_reach (fun v9 =>
  (s2).length < big ∧
  nx (s2 ++ [(v8, v9)])) noX) noX) (fun s2 =>
  ∀ words13, words13 = ((s2).map fun x11 => x11.1) →
  ∃ v17, atI p_law_most (1 : Int) = some v17 ∧
  CMul v17 (if (!decide (s2 = [])) then 1 else 0 : Int) ∧
  (-100000 ≤ (v17 * (if (!decide (s2 = [])) then 1 else 0 : Int)) ∧ (v17 * (if (!decide (s2 = [])) then 1 else 0 : Int)) ≤ 100000) ∧
  forD (intsF 0 ((v17 * (if (!decide (s2 = [])) then 1 else 0 : Int))).toNat) ([]) (fun x16 s15 nx bk =>
  m__law_word ((s15).map fun x20 => x20.1) (fun v22 =>
  m__law_subset words13 (1 : Int) (fun v23 =>
  m__law_subset words13 (0 : Int) (fun v24 =>
  (s15).length < big ∧
  nx (s15 ++ [(v22, v23, v24)])) noX) noX) noX) (fun s15 =>
  Q (s2, s15)))
theorem ok__law_any {k : Nat} {cs : EK → Addr} (B : Bl mg) (D__law_word : Def P w K mg base CX0 k "_law_word" ["_law_bag_here", "_law_used"] (spC (preK (cBag 4) (preBW (fun x : (List Str) => [iz (yL yS) x]) yS (fun x => m__law_word x))))) (D__law_draw : Def P w K mg base CX0 k "_law_draw" ["_law_bag_here", "_law_many"] (spC (preK (cBag 4) (preBW (fun x : Int => [iz zI x]) zI m_draw)))) (D__law_subset : Def P w K mg base CX0 k "_law_subset" ["_law_bag_here", "_law_words", "_law_least"] (spC (preK (cBag 4) (preBW (fun x : (List Str) × Int => [iz (yL yS) x.1, iz zI x.2]) (yL yS) (fun x => m__law_subset x.1 x.2)))))
    (F : Src K mg "_law_any" s__law_any ["_law_bag_here", "_law_most", "_law_reach"]) : Def P w K mg base CX0 (k + 1) "_law_any" ["_law_bag_here", "_law_most", "_law_reach"] (spC (preK (cBag 4) (preBW (fun x : (List Int) × Int => [iz (yL zI) x.1, iz zI x.2]) (zLp (yL (zLp yS zI)) (yL (zL3 yS (yL yS) (yL yS)))) (fun x => m__law_any x.1 x.2)))) := by
  refine F.okKW (fun _ _ => rfl) sc__law_any (fun _ => rfl) (fun f cdv A outer s H E b l x Q hr h => ⟨_, (pss_cons (ps_asg (pe_lst pa_nil) (pg_name (i := 3) sc__law_any.nd rfl (Or.inl rfl)))
 (pss_cons (ps_for PassesOwn.never rfl (pi_range1 (by rfl) B.range (pa_cons (pe_ix (kix_list (K := K)) (pv 1) pe_int (fun _ _ => rfl)) pa_nil)) (pg_name (i := 4) sc__law_any.nd rfl (Or.inl rfl)) (pss_one (ps_expr (pe_bm PySem.F.plainAttrs_list PySem.F.slot_list_append PySem.F.type_list_append mt_append (pv 3) (pa_cons (pe_lst (pa_cons (pe_def D__law_word hr pass0 (pa_cons (pv 0) (pa_cons (pe_lc (own := [("_law_row", 8)]) (g := gName 8) (by rfl) sc__law_any.nd (kpi_list (K := K) (pv 3)) (blkOk_by (N := ["_law_bag_here", "_law_most", "_law_reach", "_law_places", "_law_k", "_law_words", "_law_steps", "_law_name", "_law_row"]) (sc := defScope s__law_any) (by decide +kernel)) (fun _ _ _ _ _ => (pg_name (i := 8) sc__law_any.nd rfl (Or.inl rfl))) (fun _ _ _ _ _ => pts_nil) (fun _ _ _ _ _ => (pe_ix (kix_list (K := K)) (pv 8) pe_int (fun _ _ => rfl)))) pa_nil))) (pa_cons (pe_def D__law_draw hr pass0 (pa_cons (pv 0) (pa_cons (pv 2) pa_nil))) pa_nil))) pa_nil)))))
 (pss_cons (ps_setLc (i := 5) (own := [("_law_row", 8)]) (g := gName 8) (by rfl) sc__law_any.nd rfl rfl (sw_true rfl rfl rfl (by decide +kernel)) (kpi_list (K := K) (pv 3)) (blkOk_by (N := ["_law_bag_here", "_law_most", "_law_reach", "_law_places", "_law_k", "_law_words", "_law_steps", "_law_name", "_law_row"]) (sc := defScope s__law_any) (by decide +kernel)) (fun _ _ _ _ _ => (pg_name (i := 8) sc__law_any.nd rfl (Or.inl rfl))) (fun _ _ _ _ _ => pts_nil) (fun _ _ _ _ _ => (pe_ix (kix_list (K := K)) (pv 8) pe_int (fun _ _ => rfl))))
 (pss_cons (ps_asg (pe_lst pa_nil) (pg_name (i := 6) sc__law_any.nd rfl (Or.inl rfl)))
 (pss_cons (ps_for PassesOwn.never rfl (pi_range1 (by rfl) B.range (pa_cons (pe_op op_mul (pe_ix (kix_list (K := K)) (pv 1) pe_int (fun _ _ => rfl)) (pe_callTy call_int1 (by rfl) B.int' (by decide +kernel) (pa_cons (pe_cmpR (kop_neD (K := K) hr.units) (pv 3) (pe_lst pa_nil) (nomark _)) pa_nil))) pa_nil)) (pg_name (i := 4) sc__law_any.nd rfl (Or.inl rfl)) (pss_cons (ps_asg (pe_def D__law_word hr pass0 (pa_cons (pv 0) (pa_cons (pe_lc (own := [("_law_row", 8)]) (g := gName 8) (by rfl) sc__law_any.nd (kpi_list (K := K) (pv 6)) (blkOk_by (N := ["_law_bag_here", "_law_most", "_law_reach", "_law_places", "_law_k", "_law_words", "_law_steps", "_law_name", "_law_row"]) (sc := defScope s__law_any) (by decide +kernel)) (fun _ _ _ _ _ => (pg_name (i := 8) sc__law_any.nd rfl (Or.inl rfl))) (fun _ _ _ _ _ => pts_nil) (fun _ _ _ _ _ => (pe_ix (kix_list (K := K)) (pv 8) pe_int (fun _ _ => rfl)))) pa_nil))) (pg_name (i := 7) sc__law_any.nd rfl (Or.inl rfl)))
 (pss_one (ps_expr (pe_bm PySem.F.plainAttrs_list PySem.F.slot_list_append PySem.F.type_list_append mt_append (pv 6) (pa_cons (pe_lst (pa_cons (pv 7) (pa_cons (pe_def D__law_subset hr pass0 (pa_cons (pv 0) (pa_cons (pv 5) (pa_cons pe_int pa_nil)))) (pa_cons (pe_def D__law_subset hr pass0 (pa_cons (pv 0) (pa_cons (pv 5) (pa_cons pe_int pa_nil)))) pa_nil)))) pa_nil))))))
 (pss_one (ps_ret (pe_lst (pa_cons (pv 3) (pa_cons (pv 6) pa_nil)))))))))), fun fr Qv hret => ?_⟩)
  obtain ⟨p_law_most, p_law_reach⟩ := x
  replace h : m__law_any p_law_most p_law_reach Q noX := h
  unfold m__law_any at h
  refine kn_seq (kn_asg (i := 3) (we_ownY (zLp yS zI) (wa_nil (⟨[], rfl, Nat.le_of_ble_eq_true rfl, fun a1 => ?_⟩))))
  refine kn_nrm (Γ' := [some (zAt b), some (iz (yL zI) p_law_most), some (iz zI p_law_reach), some (zAt a1), none, none, none, none, none]) rfl ?_
  try dsimp only
  refine kn_seq (kn_forW (r := zI) (S := (List (Str × Int))) (fun s2 => [some (zAt b), some (iz (yL zI) p_law_most), some (iz zI p_law_reach), some (zAt a1), none, none, none, none, none]) (fun s2 => [cY a1 (zLp yS zI) s2, cBag 4 b l]) ([]) (wi_range (wa_cons (we_op (we_var rfl (we_cI ?_))))))
  obtain ⟨v4, ev4, h⟩ := h
  refine oy_ixL ev4 (wa_nil ?_)
  obtain ⟨g5, h⟩ := h
  refine ⟨_, rfl, (by have hb : big = 100000 := rfl; omega), (by have hb : big = 100000 := rfl; omega), ⟨_, _, _, _, _, rfl, rfl, (by and_intros), fun _ _ => tg_name, h, fun fr' le x3 s2 nx M hnx hbk h => ?_, fun s2 h => ?_⟩⟩
  · have hret := hret.fine le
    refine kn_appY (i := 3) (j := 0) rfl rfl (we_lstp (r := yS) (s := zI) (wa_cons (we_callE (wa_cons (we_var rfl (wa_cons (we_lcM0C (r := (zLp yS zI)) (s := yS) (wi_yC (i := 3) (j := 0) rfl rfl (fun e7 => (⟨_, fun x6 => x6.1, _, rfl, rfl, e7, fun x6 => tg_name, fun x6 c => we_op (we_var rfl (we_cI (oy_ixLp0 (⟨rfl, rfl⟩)))), wa_nil ?_⟩))))))))))
    refine sps_KW (mk := cBag 4) (j := 1) rfl ((s2).map fun x6 => x6.1) h (fun v8 h => ?_)
    refine wa_cons (we_callE (wa_cons (we_var rfl (wa_cons (we_var rfl (wa_nil ?_))))))
    refine sps_KW (mk := cBag 4) (j := 1) rfl p_law_reach h (fun v9 h => ?_)
    refine wa_nil (⟨_, _, rfl, ?_⟩)
    obtain ⟨g10, h⟩ := h
    refine ⟨_, rfl, rfl, g10, ?_⟩
    exact hnx (s2 ++ [(v8, v9)]) _ _ h (by and_intros) rfl
  try dsimp only
  refine kn_seq (kn_asgL (i := 5) (r := (yL yS)) (we_lcM0C (r := (zLp yS zI)) (s := yS) (wi_yC (i := 3) (j := 0) rfl rfl (fun e12 => (⟨_, fun x11 => x11.1, _, rfl, rfl, e12, fun x11 => tg_name, fun x11 c => we_op (we_var rfl (we_cI (oy_ixLp0 (⟨rfl, rfl⟩)))), ⟨_, rfl, fun words13 ewords13 => ?_⟩⟩)))))
  have h := h words13 ewords13
  refine kn_nrm (Γ' := [some (zAt b), some (iz (yL zI) p_law_most), some (iz zI p_law_reach), some (zAt a1), none, some (iz (yL yS) words13), none, none, none]) rfl ?_
  try dsimp only
  refine kn_seq (kn_asg (i := 6) (we_ownY (zL3 yS (yL yS) (yL yS)) (wa_nil (⟨[], rfl, Nat.le_of_ble_eq_true rfl, fun a14 => ?_⟩))))
  refine kn_nrm (Γ' := [some (zAt b), some (iz (yL zI) p_law_most), some (iz zI p_law_reach), some (zAt a1), none, some (iz (yL yS) words13), some (zAt a14), none, none]) rfl ?_
  try dsimp only
  refine kn_frzY (i := 3) (j := 1) rfl rfl ?_
  refine kn_seq (kn_forW (r := zI) (S := (List (Str × (List Str) × (List Str)))) (fun s15 => [some (zAt b), some (iz (yL zI) p_law_most), some (iz zI p_law_reach), some (iz (yL (zLp yS zI)) s2), none, some (iz (yL yS) words13), some (zAt a14), none, none]) (fun s15 => [cY a14 (zL3 yS (yL yS) (yL yS)) s15, cBag 4 b l]) ([]) (wi_range (wa_cons (we_op (we_op (we_var rfl (we_cI ?_)))))))
  obtain ⟨v17, ev17, h⟩ := h
  refine oy_ixL ev17 (we_cb (wa_cons (we_op (we_var rfl (we_lstY (r := (zLp yS zI)) (wa_nil (⟨[], rfl, Nat.le_of_ble_eq_true rfl, oq_ne (r := (yL (zLp yS zI))) (by decide) (wa_nil (cy_intB ?_))⟩)))))))
  obtain ⟨g18, h⟩ := h
  refine ops_IC g18 (wa_nil ?_)
  obtain ⟨g19, h⟩ := h
  refine ⟨_, rfl, (by have hb : big = 100000 := rfl; omega), (by have hb : big = 100000 := rfl; omega), ⟨_, _, _, _, _, rfl, rfl, (by and_intros), fun _ _ => tg_name, h, fun fr' le x16 s15 nx M hnx hbk h => ?_, fun s15 h => ?_⟩⟩
  · have hret := hret.fine le
    refine kn_seq (kn_asg (i := 7) (we_callE (wa_cons (we_var rfl (wa_cons (we_lcM0C (r := (zL3 yS (yL yS) (yL yS))) (s := yS) (wi_yC (i := 6) (j := 0) rfl rfl (fun e21 => (⟨_, fun x20 => x20.1, _, rfl, rfl, e21, fun x20 => tg_name, fun x20 c => we_op (we_var rfl (we_cI (oy_ixL30 (⟨rfl, rfl⟩)))), wa_nil ?_⟩)))))))))
    refine sps_KW (mk := cBag 4) (j := 1) rfl ((s15).map fun x20 => x20.1) h (fun v22 h => ?_)
    refine kn_nrm (Γ' := [some (zAt b), some (iz (yL zI) p_law_most), some (iz zI p_law_reach), some (iz (yL (zLp yS zI)) s2), some (iz zI x16), some (iz (yL yS) words13), some (zAt a14), some (iz yS v22), none]) rfl ?_
    try dsimp only
    refine kn_appY (i := 6) (j := 0) rfl rfl (we_lst3 (r := yS) (s := (yL yS)) (o := (yL yS)) (wa_cons (we_var rfl (wa_cons (we_callE (wa_cons (we_var rfl (wa_cons (we_var rfl (wa_cons (we_cI (wa_nil ?_))))))))))))
    refine sps_KW (mk := cBag 4) (j := 1) rfl (words13, (1 : Int)) h (fun v23 h => ?_)
    refine wa_cons (we_callE (wa_cons (we_var rfl (wa_cons (we_var rfl (wa_cons (we_cI (wa_nil ?_))))))))
    refine sps_KW (mk := cBag 4) (j := 1) rfl (words13, (0 : Int)) h (fun v24 h => ?_)
    refine wa_nil (⟨_, _, _, rfl, ?_⟩)
    obtain ⟨g25, h⟩ := h
    refine ⟨_, rfl, rfl, g25, ?_⟩
    exact hnx (s15 ++ [(v22, v23, v24)]) _ _ h (by and_intros) rfl
  try dsimp only
  refine kn_frzY (i := 6) (j := 0) rfl rfl ?_
  refine kn_ret (we_lstp (r := (yL (zLp yS zI))) (s := (yL (zL3 yS (yL yS) (yL yS)))) (wa_cons (we_var rfl (wa_cons (we_var rfl (wa_nil (⟨_, _, rfl, ?_⟩)))))))
  exact hret _ h _ (List.mem_of_getElem? (i := 0) rfl)
end
section
theorem draw_ok {m : Int} {Q : Int → Prop} {X : HE → Prop} (h0 : 0 < m) (h1 : m ≤ 10 ^ 40) (h : ∀ n : Nat, (n : Int) < m → Q n) : m_draw m Q X := ⟨h0, h1, fun n n0 n1 => by
  obtain ⟨j, rfl⟩ : ∃ j : Nat, n = j := ⟨n.toNat, by omega⟩
  exact h j n1⟩
theorem pos_of_ne {α : Type} {l : List α} (h : l ≠ []) : 0 < l.length := by
  cases l with
  | nil => exact absurd rfl h
  | cons a l => exact Nat.succ_pos _
theorem lt_big {n : Nat} (h : n < 1000) : n < big := Nat.lt_trans h (by decide)
def SIG : List Nat := (("abcdefghijklmnopqrstuvwxyz0123456789" : Str)).cps.toList
theorem sig_len : SIG.length = 36 := by decide +kernel
theorem sig26 : ∀ j : Nat, j < 26 → (decide (SIG.getD j 0 ∈ LETTERS.cps.toList) && okc (SIG.getD j 0)) = true := by decide +kernel
theorem sig36 : ∀ j : Nat, j < 36 → okc (SIG.getD j 0) = true := by decide +kernel
theorem sig_at {j : Nat} (h : j < 36) : atI SIG (j : Int) = some (SIG.getD j 0) := by
  refine atI_nat ?_
  have : j < SIG.length := by rw [sig_len]; exact h
  rw [List.getD_eq_getElem?_getD, List.getElem?_eq_getElem this]
  rfl
theorem len_app (a b : Str) : (a ++ b).length = a.length + b.length := by
  show (a.cps ++ b.cps : Array Nat).size = _
  rw [Array.size_append]
  rfl
theorem cps_app (a b : Str) : (a ++ b).cps.toList = a.cps.toList ++ b.cps.toList := by
  show (a.cps ++ b.cps : Array Nat).toList = _
  simp
/-- the beginning of a word -/
structure Stem (n : Nat) (z : Str) : Prop where
  len : z.length ≤ n
  ex : ∃ c r, z.cps.toList = c :: r ∧ c ∈ LETTERS.cps.toList ∧ ∀ d ∈ c :: r, okc d = true
theorem Stem.app {n m : Nat} {z y : Str} (h : Stem n z) (hy : ∀ d ∈ y.cps.toList, okc d = true) (hl : y.length ≤ m) : Stem (n + m) (z ++ y) := by
  obtain ⟨c, r, e, h1, h2⟩ := h.ex
  refine ⟨by rw [len_app]; have := h.len; omega, c, r ++ y.cps.toList, by rw [cps_app, e]; rfl, h1, fun d hd => ?_⟩
  rw [← List.cons_append] at hd
  rcases List.mem_append.mp hd with q | q
  · exact h2 d q
  · exact hy d q
theorem Stem.isWd {n : Nat} {z : Str} (h : Stem n z) (hn : n ≤ 12) : Wd z := by
  obtain ⟨c, r, e, h1, h2⟩ := h.ex
  show wd z.cps.toList = true
  unfold L2.wd
  have hl : z.cps.toList.length ≤ 12 := Nat.le_trans h.len hn
  rw [e] at hl ⊢
  rw [Bool.and_eq_true, Bool.and_eq_true]
  exact ⟨decide_eq_true ⟨by rw [List.length_cons]; omega, hl⟩, decide_eq_true h1, List.all_eq_true.mpr h2⟩
theorem num_okc (n : Nat) : ∀ d ∈ (numS (n : Int)).cps.toList, okc d = true := fun d hd => by
  have e : (numS (n : Int)).cps.toList = TL.numL n := TL.tl_num n
  rw [e] at hd
  have h := TL.numL_digits n d hd
  have : ∀ d : Nat, 48 ≤ d → d ≤ 57 → okc d = true := by
    intro d h1 h2
    obtain ⟨j, rfl⟩ : ∃ j, d = 48 + j := ⟨d - 48, by omega⟩
    have hj : j < 10 := by omega
    have : ∀ j : Nat, j < 10 → okc (48 + j) = true := by decide +kernel
    exact this j hj
  exact this d (by omega) (by omega)
theorem num_lenN {n k : Nat} (hk : 0 < k) (h : n < 10 ^ k) : (numS (n : Int)).length ≤ k := by
  have e : (numS (n : Int)).cps.toList = TL.numL n := TL.tl_num n
  show (numS (n : Int)).cps.toList.length ≤ k
  rw [e]
  exact TL.numL_len hk h
theorem num_inj {m n : Nat} (h : numS (m : Int) = numS (n : Int)) : m = n := by
  have e : ∀ n : Nat, (numS (n : Int)).cps.toList = TL.numL n := fun n => TL.tl_num n
  refine TL.numL_inj ?_
  rw [← e, ← e, h]
theorem num_pos (n : Nat) : 0 < (numS (n : Int)).length := by
  have e : (numS (n : Int)).cps.toList = TL.numL n := TL.tl_num n
  show 0 < (numS (n : Int)).cps.toList.length
  rw [e]
  exact pos_of_ne (TL.numL_ne n)
theorem str_app_inj {a b c : Str} (h : a ++ b = a ++ c) : b = c := by
  have h := congrArg (fun z : Str => z.cps.toList) h
  simp only [cps_app, List.append_cancel_left_eq] at h
  cases b
  cases c
  simp only at h
  rw [Array.toList_inj.mp h]
/-- the candidates for a word -/
def cand (b : Str) : Nat → Str
  | 0 => b
  | n + 1 => b ++ numS (n : Int)
theorem cand_inj {b : Str} {m n : Nat} (h : cand b m = cand b n) : m = n := by
  have ne : ∀ k : Nat, b ++ numS (k : Int) ≠ b := fun k e => by
    have := congrArg Str.length e
    rw [len_app] at this
    have := num_pos k
    omega
  match m, n, h with
  | 0, 0, _ => rfl
  | 0, n + 1, h => exact absurd h.symm (ne n)
  | m + 1, 0, h => exact absurd h (ne m)
  | m + 1, n + 1, h => rw [num_inj (str_app_inj h)]
theorem nodup_map' {α β : Type} {f : α → β} {l : List α} (hf : ∀ x y, f x = f y → x = y) (h : l.Nodup) : (l.map f).Nodup := by
  induction l with
  | nil => exact List.nodup_nil
  | cons a l ih =>
    rw [List.nodup_cons] at h
    rw [List.map_cons, List.nodup_cons]
    refine ⟨fun hm => ?_, ih h.2⟩
    obtain ⟨y, hy, e⟩ := List.mem_map.mp hm
    rw [← hf _ _ e] at h
    exact h.1 hy
theorem cand_fresh {b : Str} {used : List Str} (h : ∀ j < used.length, cand b j ∈ used) : cand b used.length ∉ used := fun hm => by
  have h1 : ((List.range (used.length + 1)).map (cand b)).Nodup := nodup_map' (fun _ _ => cand_inj) List.nodup_range
  have h2 : ∀ x ∈ (List.range (used.length + 1)).map (cand b), x ∈ used := fun x hx => by
    obtain ⟨j, hj, rfl⟩ := List.mem_map.mp hx
    have hj := List.mem_range.mp hj
    by_cases e : j = used.length
    · rw [e]; exact hm
    · exact h j (by omega)
  have := List.Nodup.length_le_of_subset h1 h2
  rw [List.length_map, List.length_range] at this
  omega
theorem cand_stem {b : Str} (h : Stem 10 b) {n : Nat} (hn : n ≤ 100) : Stem 12 (cand b n) := by
  cases n with
  | zero => exact ⟨Nat.le_trans h.len (by decide), h.ex⟩
  | succ n => exact h.app (m := 2) (num_okc n) (num_lenN (by decide) (by show n < 100; omega))
theorem cstr_nat {n : Nat} (h : n < 10 ^ 40) : CStr (n : Int) := by
  unfold CStr
  rw [Int.natAbs_natCast]
  exact Nat.lt_trans h (by decide)
theorem intsF_split {n : Nat} {pre post : List Int} {x : Int} (h : intsF 0 n = pre ++ x :: post) : x = (pre.length : Int) ∧ pre.length < n := by
  have h1 : (intsF 0 n)[pre.length]? = some x := by rw [h]; simp
  obtain ⟨h2, h3⟩ := intsF_get h1
  exact ⟨by omega, h2⟩
theorem word_ok {used : List Str} {Q : Str → Prop} {X : HE → Prop} (hl : used.length ≤ 100) (h : ∀ z, Wd z → z ∉ used → Q z) : m__law_word used Q X := by
  unfold m__law_word
  refine draw_ok (by decide) (by decide) fun j hj => ⟨_, sig_at (by omega), fun base hb => ?_⟩
  have hj : j < 26 := by omega
  have h26 := sig26 j hj
  rw [Bool.and_eq_true] at h26
  have st : Stem 1 base := by
    rw [hb]
    exact ⟨Nat.le_refl _, SIG.getD j 0, [], rfl, of_decide_eq_true h26.1, fun d hd => by rw [List.mem_singleton.mp hd]; exact h26.2⟩
  refine draw_ok (by decide) (by decide) fun a ha => draw_ok (by decide) (by decide) fun b hb => ?_
  have ha : a < 4 := by omega
  have hb : b < 4 := by omega
  have hab : a * b ≤ 9 := by
    have : a ≤ 3 := by omega
    have : b ≤ 3 := by omega
    exact Nat.le_trans (Nat.mul_le_mul ‹a ≤ 3› ‹b ≤ 3›) (by decide)
  have hc : ((a : Int) * (b : Int)) = ((a * b : Nat) : Int) := by simp
  refine ⟨.inr ⟨by omega, by omega⟩, by rw [hc]; omega, ?_⟩
  rw [hc, Int.toNat_natCast]
  refine forD_inv (fun done s => Stem (1 + done.length) s) st (fun pre x post s nx e hs hnx => ?_) fun s hs => ?_
  · have hx := intsF_split e
    refine draw_ok (by decide) (by decide) fun i hi => ⟨_, sig_at (by omega), ?_, fun z hz => hnx z ?_⟩
    · have := hs.len
      have hb : big = 100000 := rfl
      show _ + 1 ≤ _
      omega
    · rw [hz, List.length_append]
      exact hs.app (m := 1) (fun d hd => by
        have hd : d ∈ [SIG.getD i 0] := hd
        rw [List.mem_singleton.mp hd]
        exact sig36 i (by omega)) (Nat.le_refl _)
  · rw [intsF_len] at hs
    have hs : Stem 10 s := ⟨Nat.le_trans hs.len (by omega), hs.ex⟩
    rw [Int.toNat_natCast]
    refine forD_inv (fun done w => w = cand s done.length ∧ ∀ k < done.length, cand s k ∈ used) ⟨rfl, fun k hk => absurd hk (Nat.not_lt_zero _)⟩ (fun pre x post w nx e hs2 hnx => ?_) fun w hw => ?_
    · obtain ⟨rfl, hk⟩ := hs2
      obtain ⟨rfl, hp⟩ := intsF_split e
      refine ⟨fun hc => ?_, fun hc => ?_⟩
      · refine h _ ((cand_stem hs (by omega)).isWd (by decide)) ?_
        intro hm
        rw [decide_eq_true hm] at hc
        cases hc
      · have hm : cand s pre.length ∈ used := by
          by_cases q : cand s pre.length ∈ used
          · exact q
          · rw [decide_eq_false q] at hc
            cases hc
        refine ⟨cstr_nat (Nat.lt_trans (show pre.length < 101 by omega) (by decide)), ?_, fun z hz => hnx z ⟨?_, fun k hk2 => ?_⟩⟩
        · have h1 := num_lenN (n := pre.length) (k := 3) (by decide) (by omega)
          have h2 := hs.len
          have hb : big = 100000 := rfl
          omega
        · rw [hz, List.length_append]
          rfl
        · rw [List.length_append] at hk2
          by_cases q : k = pre.length
          · rw [q]; exact hm
          · exact hk k (by simp at hk2; omega)
    · obtain ⟨rfl, hk⟩ := hw
      rw [intsF_len] at hk ⊢
      exact h _ ((cand_stem hs hl).isWd (by decide)) (cand_fresh hk)
theorem subset_ok {ws : List Str} {m : Int} {Q : List Str → Prop} {X : HE → Prop} (hn : ws.Nodup) (hl : ws.length ≤ 100) (hm : m = 0 ∨ m = 1 ∧ ws ≠ []) (h : ∀ r, r.Nodup → (∀ y ∈ r, y ∈ ws) → (m = 1 → r ≠ []) → r.length ≤ 100 → Q r) : m__law_subset ws m Q X := by
  unfold m__law_subset
  refine forD_inv (fun done s => s.Sublist done) .slnil (fun pre x post s nx e hs hnx => ?_) fun s hs => ?_
  · refine draw_ok (by decide) (by decide) fun i hi => ⟨fun _ => ⟨?_, hnx _ ?_⟩, fun _ => hnx _ ?_⟩
    · have h1 := hs.length_le
      have h2 : pre.length < ws.length := by rw [e]; simp
      have hb : big = 100000 := rfl
      omega
    · exact hs.append (List.Sublist.refl [x])
    · exact hs.trans (List.sublist_append_left _ _)
  · have h1 := hs.length_le
    have hin : ∀ y ∈ s, y ∈ ws := fun y hy => hs.subset hy
    refine ⟨fun hc => ?_, fun hc => ?_⟩
    · have hc := of_decide_eq_true hc
      rcases hm with rfl | ⟨rfl, hne⟩
      · omega
      · have hp : 0 < ws.length := pos_of_ne hne
        refine draw_ok (by omega) (Int.le_trans (show (ws.length : Int) ≤ 1000 by omega) (by decide)) fun i hi => ⟨ws[i]'(by omega), atI_nat (List.getElem?_eq_getElem (by omega)), fun c hc => h c ?_ ?_ (fun _ => by rw [hc]; simp) (by rw [hc]; show 1 ≤ 100; decide)⟩
        · rw [hc]; simp
        · rw [hc]
          intro y hy
          rw [List.mem_singleton.mp hy]
          exact List.getElem_mem _
    · refine h s (hs.nodup hn) hin (fun e1 e2 => ?_) (Nat.le_trans h1 hl)
      subst e1 e2
      have hc := of_decide_eq_false hc
      simp at hc
/-- rows of a plan that is not refused -/
structure OkRows (prs : List (Str × Int)) (srs : List SRow) : Prop where
  pw : ∀ r ∈ prs, Wd r.1 ∧ 0 ≤ r.2 ∧ r.2 ≤ 99
  pn : (prs.map (·.1)).Nodup
  sw : ∀ r ∈ srs, Wd r.1 ∧ r.2.1 ≠ [] ∧ r.2.1.Nodup ∧ (∀ y ∈ r.2.1, y ∈ prs.map (·.1)) ∧ r.2.2.Nodup ∧ (∀ y ∈ r.2.2, y ∈ prs.map (·.1))
  sn : (srs.map (·.1)).Nodup
  p12 : prs.length ≤ 12
  s16 : srs.length ≤ 16
theorem OkRows.due {prs : List (Str × Int)} {srs : List SRow} (h : OkRows prs srs) : planDue prs srs = none := planDue_none h.pw h.pn h.sw h.sn h.p12 h.s16
theorem OkRows.len {prs : List (Str × Int)} {srs : List SRow} (h : OkRows prs srs) {l : List Str} (hn : l.Nodup) (hs : ∀ y ∈ l, y ∈ prs.map (·.1)) : l.length ≤ 12 := by
  have := List.Nodup.length_le_of_subset hn hs
  rw [List.length_map] at this
  have := h.p12
  omega
theorem OkRows.B {prs : List (Str × Int)} {srs : List SRow} (h : OkRows prs srs) : RowsB prs srs := by
  have pw : ∀ y ∈ prs.map (·.1), y.length ≤ 1000 := fun y hy => by
    obtain ⟨r, hr, rfl⟩ := List.mem_map.mp hy
    exact Nat.le_trans (h.pw r hr).1.len (by decide)
  refine ⟨fun r hr => Nat.le_trans (h.pw r hr).1.len (by decide), fun r hr => ?_⟩
  obtain ⟨a0, a1, a2, a3, a4, a5⟩ := h.sw r hr
  exact ⟨Nat.le_trans a0.len (by decide), Nat.le_trans (h.len a2 a3) (by decide), Nat.le_trans (h.len a4 a5) (by decide), fun y hy => pw y (a3 y hy), fun y hy => pw y (a5 y hy)⟩
theorem any_ok {a b : Nat} {Q : List (Str × Int) × List SRow → Prop} {X : HE → Prop} (ha : a ≤ 12) (hb : b ≤ 16) (h : ∀ prs srs, OkRows prs srs → prs.length = a → (srs.length = b ∨ prs = [] ∧ srs = []) → Q (prs, srs)) : m__law_any [(a : Int), (b : Int)] 100 Q X := by
  unfold m__law_any
  refine ⟨a, atI_0, by omega, ?_⟩
  rw [Int.toNat_natCast]
  refine forD_inv (fun done (s : List (Str × Int)) => s.length = done.length ∧ (∀ r ∈ s, Wd r.1 ∧ 0 ≤ r.2 ∧ r.2 ≤ 99) ∧ (s.map (·.1)).Nodup) ⟨rfl, (fun r hr => nomatch hr), List.nodup_nil⟩ (fun pre x post s nx e ⟨h1, h2, h3⟩ hnx => ?_) fun s ⟨h1, h2, h3⟩ => ?_
  · have hp := (intsF_split e).2
    refine word_ok (by rw [List.length_map]; omega) fun z hz hzn => draw_ok (by decide) (by decide) fun i hi => ⟨lt_big (by omega), hnx _ ⟨?_, fun r hr => ?_, ?_⟩⟩
    · rw [List.length_append, List.length_append, h1]
      rfl
    · rcases List.mem_append.mp hr with q | q
      · exact h2 r q
      · rw [List.mem_singleton.mp q]
        exact ⟨hz, by show (0 : Int) ≤ i; omega, by show (i : Int) ≤ 99; omega⟩
    · rw [List.map_append]
      exact nodup_snoc h3 hzn
  · rw [intsF_len] at h1
    intro words hwd
    refine ⟨b, atI_nat (j := 1) rfl, ?_⟩
    have e01 : (if (!decide (s = [])) then 1 else 0 : Int) = if s = [] then 0 else 1 := by
      by_cases q : s = [] <;> simp [q]
    rw [e01]
    have hb2 : (b : Int) * (if s = [] then 0 else 1) = ((if s = [] then 0 else b : Nat) : Int) := by
      by_cases q : s = [] <;> simp [q]
    refine ⟨.inr ⟨by omega, by split <;> omega⟩, by rw [hb2]; split <;> omega, ?_⟩
    rw [hb2, Int.toNat_natCast]
    have wn : words.Nodup := by rw [hwd]; exact h3
    have wl : words.length = a := by rw [hwd, List.length_map, h1]
    refine forD_inv (fun done (t : List SRow) => t.length = done.length ∧ (∀ r ∈ t, Wd r.1 ∧ r.2.1 ≠ [] ∧ r.2.1.Nodup ∧ (∀ y ∈ r.2.1, y ∈ s.map (·.1)) ∧ r.2.2.Nodup ∧ (∀ y ∈ r.2.2, y ∈ s.map (·.1))) ∧ (t.map (·.1)).Nodup) ⟨rfl, (fun r hr => nomatch hr), List.nodup_nil⟩ (fun pre x post t nx e ⟨g1, g2, g3⟩ hnx => ?_) fun t ⟨g1, g2, g3⟩ => ?_
    · have hp := (intsF_split e).2
      have hne : s ≠ [] := fun q => by rw [if_pos q] at hp; exact Nat.not_lt_zero _ hp
      have wne : words ≠ [] := fun q => by
        rw [q] at wl
        have : s.length = 0 := by rw [h1]; exact wl.symm
        exact hne (List.eq_nil_of_length_eq_zero this)
      rw [if_neg hne] at hp
      refine word_ok (by rw [List.length_map]; omega) fun z hz hzn => ?_
      refine subset_ok wn (by omega) (.inr ⟨rfl, wne⟩) fun r1 a1 a2 a3 a4 => ?_
      refine subset_ok wn (by omega) (.inl rfl) fun r2 b1 b2 b3 b4 => ⟨lt_big (by omega), hnx _ ⟨?_, fun r hr => ?_, ?_⟩⟩
      · rw [List.length_append, List.length_append, g1]
        rfl
      · rcases List.mem_append.mp hr with q | q
        · exact g2 r q
        · rw [List.mem_singleton.mp q]
          exact ⟨hz, a3 rfl, a1, fun y hy => by rw [← hwd]; exact a2 y hy, b1, fun y hy => by rw [← hwd]; exact b2 y hy⟩
      · rw [List.map_append]
        exact nodup_snoc g3 hzn
    · rw [intsF_len] at g1
      refine h s t ⟨h2, h3, g2, g3, by omega, ?_⟩ h1 ?_
      · rw [g1]
        split <;> omega
      · by_cases q : s = []
        · rw [if_pos q] at g1
          exact .inr ⟨q, List.eq_nil_of_length_eq_zero g1⟩
        · rw [if_neg q] at g1
          exact .inl g1
end
section
theorem joinI {S : Type} {f : (S → Prop) → Prop} {k : S → Prop} (h : f k) : joinD f k := h
theorem empty_app (z : Str) : Str.empty ++ z = z := by
  have h : (Str.empty ++ z).cps.toList = z.cps.toList := by rw [cps_app]; rfl
  cases z
  rw [show (Str.empty ++ _ : Str) = ⟨(Str.empty ++ _ : Str).cps⟩ from rfl]
  rw [Array.toList_inj.mp h]
theorem sum_le {l : List Str} {m : Nat} (h : ∀ y ∈ l, y.length ≤ m) : (l.map (·.length)).sum ≤ m * l.length := by
  induction l with
  | nil => exact Nat.le_refl _
  | cons y l ih =>
    have h1 := h y (List.mem_cons_self ..)
    have h2 := ih fun z hz => h z (List.mem_cons_of_mem _ hz)
    rw [List.map_cons, List.sum_cons, List.length_cons, Nat.mul_add]
    omega
end
section
variable {P : Program} {w : World} {K : PySem.W.Frag} {mg : Str → Option Value} {base : Heap}
abbrev s_is_word : Stmt := topS 14
theorem sc_is_word : FnScope ["word", "sign"] ["word"] (defScope s_is_word) := ⟨rfl, rfl, rfl, by decide +kernel, rfl, by decide +kernel, by decide +kernel⟩
def spIsWord : Sp := fun vs H Q _ => ∃ z : Str, vs = [.str z] ∧ z.length ≤ sizeLine ∧ ∀ H', Same H H' → Q (.bl (wd z.cps.toList)) H'
theorem ok_is_word {k : Nat} (B : Bl mg) (g_LETTERS : Glo mg "LETTERS" (.str LETTERS)) (g_DIGITS_words : Glo mg "DIGITS_words" (.str DIGITS)) (g_MOST_SIGNS : Glo mg "MOST_SIGNS" (.int 12)) (F : Src K mg "is_word" s_is_word ["word"]) : Def P w K mg base CX0 (k + 1) "is_word" ["word"] spIsWord := by
  refine F.ok sc_is_word (fun vs H Q E h => ?_) (fun f cdv A outer s H vs Q E hr h => ?_)
  · obtain ⟨z, rfl, _⟩ := h
    rfl
  · obtain ⟨z, rfl, hz, q⟩ := h
    refine ⟨_, (pss_cons (ps_if (pt_not (pt_chain op_le op_le pe_int (pe_callB call_len_str (by rfl) B.len PySem.boot_len (pa_cons (pv 0) pa_nil)) (pe_glo g_MOST_SIGNS))) (pss_one (ps_ret pe_bl)) pss_nil)
 (pss_cons (ps_if (pt_cmpR op_notIn_sign (pe_ix ix_str (pv 0) pe_int (fun _ _ => rfl)) (pe_glo g_LETTERS) rfl) (pss_one (ps_ret pe_bl)) pss_nil)
 (pss_one (ps_ret (pe_callB (kcr_all (K := K) rfl) (by rfl) B.all' (by decide +kernel) (pa_cons (pe_lc (own := [("sign", 1)]) (g := gName 1) (by rfl) sc_is_word.nd (pi_str (pv 0)) (blkOk_by (N := ["word", "sign"]) (sc := defScope s_is_word) (by decide +kernel)) (fun _ _ _ _ _ => (pg_name (i := 1) sc_is_word.nd rfl (Or.inl rfl))) (fun _ _ _ _ _ => pts_nil) (fun _ _ _ _ _ => (pe_or (pe_cmpR op_in_sign (pv 1) (pe_glo g_LETTERS) rfl) (pe_one (pe_cmpR op_in_sign (pv 1) (pe_glo g_DIGITS_words) rfl))))) pa_nil)))))), ?_⟩
    have hl := len_cps z
    have no : ∀ b : Bool, wd z.cps.toList = b → ∀ H', Same H H' → Q (.bl b) H' := fun b e H' s => by rw [← e]; exact q H' s
    -- not 1 <= len(word) <= 12
    refine ⟨_, rfl, _, rfl, hz, _, _, rfl, rfl, _, rfl, ?_⟩
    refine ite2 (fun h1 => ?_) (fun h1 => ?_)
    · have h1 : (1 : Int) ≤ z.length := of_decide_eq_true h1
      refine ⟨_, _, rfl, rfl, _, rfl, ?_⟩
      refine ite2 (fun h2 => ?_) (fun h2 => ?_)
      · have h2 : ¬ (z.length : Int) ≤ 12 := by simpa using h2
        refine no _ ?_ _ (Same.refl H)
        have : ¬ (1 ≤ z.cps.toList.length ∧ z.cps.toList.length ≤ 12) := by omega
        unfold wd
        rw [decide_eq_false this]
        rfl
      · have h2 : (z.length : Int) ≤ 12 := by simpa using h2
        -- word[0] not in LETTERS
        have hc : z.cps.toList[0]? = some (z.cps.toList.headD 0) := by
          cases e : z.cps.toList with
          | nil => rw [e] at hl; simp at hl; omega
          | cons a r => rfl
        have hw : (decide (1 ≤ z.cps.toList.length ∧ z.cps.toList.length ≤ 12)) = true := decide_eq_true (by omega)
        refine ⟨_, rfl, z, _, _, rfl, rfl, hz, atI_nat (j := 0) hc, _, _, rfl, rfl, _, rfl, ?_⟩
        refine ite2 (fun h3 => ?_) (fun h3 => ?_)
        · refine no _ ?_ _ (Same.refl H)
          have h3 : decide (z.cps.toList.headD 0 ∈ LETTERS.cps.toList) = false := by simpa using h3
          unfold wd
          rw [h3, Bool.false_and, Bool.and_false]
        · have h3 : decide (z.cps.toList.headD 0 ∈ LETTERS.cps.toList) = true := by simpa using h3
          have hv : wd z.cps.toList = z.cps.toList.all okc := by
            unfold wd
            rw [hw, h3, Bool.true_and, Bool.true_and]
          -- all([..])
          refine ⟨_, rfl, z, rfl, fun D nD => lc_it (walk_str (z := z)) (fun i H' => Same H H' ∧ H' D = some (.lst (((z.cps.toList.take i).map okc).map V.bl))) ⟨same_upd nD, upd_same⟩ (fun _ _ _ _ => trivial) ?_ ?_⟩
          · rintro i x H' H2 hi ⟨sm, hD⟩ ⟨rfl, c, hc, rfl⟩
            have hc2 : z.cps.toList[i]? = some c := by simpa using hc
            refine ⟨rfl, yes_if ?_⟩
            have fin : ∃ acc, H2 D = some (.lst acc) ∧ acc.length < sizeLine ∧ Same H (upd H2 D (.lst (acc ++ [V.bl (okc c)]))) ∧ upd H2 D (.lst (acc ++ [V.bl (okc c)])) D = some (.lst (((z.cps.toList.take (i + 1)).map okc).map V.bl)) := by
              refine ⟨_, hD, ?_, fun b o e => ?_, ?_⟩
              · rw [List.length_map, List.length_map, List.length_take]
                exact small1000 (by omega)
              · rw [upd_ne (ne_of_none e nD)]
                exact sm b o e
              · rw [upd_same, all_take hc2, List.map_append]
                rfl
            refine ⟨_, rfl, c, _, rfl, rfl, _, rfl, ?_⟩
            refine ite2 (fun h4 => ?_) (fun h4 => ?_)
            · have e : okc c = true := by unfold okc; rw [h4, Bool.true_or]
              rw [e] at fin
              exact fin
            · have h4 : decide (c ∈ LETTERS.cps.toList) = false := by simpa using h4
              have e : okc c = decide (c ∈ DIGITS.cps.toList) := by unfold okc; rw [h4, Bool.false_or]
              rw [e] at fin
              exact ⟨_, rfl, c, _, rfl, rfl, fin⟩
          · rintro H' ⟨sm, hD⟩
            have e : z.cps.toList.take z.cps.size = z.cps.toList := List.take_of_length_le (by simp)
            rw [e] at hD
            refine ⟨D, _, rfl, SqL.of hD, ?_⟩
            rw [all_id]
            exact no _ hv _ sm
    · have h1 : ¬ (1 : Int) ≤ z.length := by simpa using h1
      refine ⟨_, rfl, ?_⟩
      refine no _ ?_ _ (Same.refl H)
      have : ¬ (1 ≤ z.cps.toList.length ∧ z.cps.toList.length ≤ 12) := by omega
      unfold wd
      rw [decide_eq_false this]
      rfl
abbrev s_check_word : Stmt := topS 15
theorem sc_check_word : FnScope ["word"] ["word"] (defScope s_check_word) := ⟨rfl, rfl, rfl, by decide +kernel, rfl, by decide +kernel, by decide +kernel⟩
def spCheckWord (C : Addr) : Sp := fun vs H Q E => ∃ z : Str, vs = [.str z] ∧ z.length ≤ sizeLine ∧ (wd z.cps.toList = true → ∀ H', Same H H' → Q (.str z) H') ∧ (wd z.cps.toList = false → Rais E H C [("word", .str z)])
theorem ok_check_word {k : Nat} {C_BadWord f_BadWord : Addr} (X_BadWord : ErrTxt P K mg false "BadWord" C_BadWord f_BadWord ["word"]) (D_is_word : Def P w K mg base CX0 k "is_word" ["word"] spIsWord) (F : Src K mg "check_word" s_check_word ["word"]) :
    Def P w K mg base (L2.CX P w) (k + 1) "check_word" ["word"] (spCheckWord C_BadWord) := by
  refine F.okX sc_check_word (fun vs H Q E h => ?_) (fun f cdv A outer s H vs Q E hr h => ?_)
  · obtain ⟨z, rfl, _⟩ := h
    rfl
  · obtain ⟨z, rfl, hz, q1, q2⟩ := h
    refine ⟨_, (pss_cons (ps_if (pt_not (pt_val (pe_def D_is_word hr pass0 (pa_cons (pv 0) pa_nil)))) (pss_one (ps_raiseE rfl X_BadWord hr (takes_of rfl rfl rfl rfl) (pa_cons (pv 0) pa_nil))) pss_nil)
 (pss_one (ps_ret (pv 0)))), ?_⟩
    refine ⟨_, rfl, z, rfl, hz, fun H' sm => ⟨_, rfl, ?_⟩⟩
    refine ite2 (fun h1 => ?_) (fun h1 => ?_)
    · have h1 : wd z.cps.toList = false := by simpa using h1
      exact ⟨_, rfl, rfl, (fun e => by cases e), fun d hd => (q2 h1).go sm hd⟩
    · have h1 : wd z.cps.toList = true := by simpa using h1
      exact ⟨_, rfl, q1 h1 H' sm⟩
end
section
variable {P : Program} {w : World} {K : PySem.W.Frag} {mg : Str → Option Value} {base : Heap}
abbrev s_check_number : Stmt := topS 16
theorem sc_check_number : FnScope ["number", "least", "most"] ["number", "least", "most"] (defScope s_check_number) := ⟨rfl, rfl, rfl, by decide +kernel, rfl, by decide +kernel, by decide +kernel⟩
def spCheckNumber (C : Addr) : Sp := fun vs H Q E => ∃ n lo hi : Int, vs = [.int n, .int lo, .int hi] ∧ (lo ≤ n ∧ n ≤ hi → Q (.int n) H) ∧ (¬ (lo ≤ n ∧ n ≤ hi) → Rais E H C [("number", .int n)])
theorem ok_check_number {k : Nat} {C_BadNumber f_BadNumber : Addr} (X_BadNumber : ErrTxt P K mg false "BadNumber" C_BadNumber f_BadNumber ["number"]) (F : Src K mg "check_number" s_check_number ["number", "least", "most"]) :
    Def P w K mg base (L2.CX P w) (k + 1) "check_number" ["number", "least", "most"] (spCheckNumber C_BadNumber) := by
  refine F.okX sc_check_number (fun vs H Q E h => ?_) (fun f cdv A outer s H vs Q E hr h => ?_)
  · obtain ⟨n, lo, hi, rfl, _⟩ := h
    rfl
  · obtain ⟨n, lo, hi, rfl, q1, q2⟩ := h
    refine ⟨_, (pss_cons (ps_if (PW.pt (pw_or (pt_cmpR op_lt (pv 0) (pv 1) (nomark _)) (pw_or1 (pt_cmpR op_gt (pv 0) (pv 2) (nomark _))))) (pss_one (ps_raiseE rfl X_BadNumber hr (takes_of rfl rfl rfl rfl) (pa_cons (pv 0) pa_nil))) pss_nil)
 (pss_one (ps_ret (pv 0)))), ?_⟩
    refine ⟨_, rfl, _, rfl, _, _, rfl, rfl, _, rfl, ?_⟩
    refine ite2 (fun h1 => ?_) (fun h1 => ?_)
    · have h1 : n < lo := of_decide_eq_true h1
      exact iteT ⟨_, rfl, rfl, (fun e => by cases e), fun d hd => (q2 (by omega)).go (Same.refl H) hd⟩
    · have h1 : ¬ n < lo := by simpa using h1
      refine ⟨_, rfl, _, rfl, _, _, rfl, rfl, _, rfl, ?_⟩
      refine ite2 (fun h2 => ?_) (fun h2 => ?_)
      · have h2 : hi < n := of_decide_eq_true h2
        exact ⟨_, rfl, rfl, (fun e => by cases e), fun d hd => (q2 (by omega)).go (Same.refl H) hd⟩
      · have h2 : ¬ hi < n := by simpa using h2
        exact ⟨_, rfl, q1 (by omega)⟩
abbrev s_check_names : Stmt := topS 17
theorem sc_check_names : FnScope ["names", "known", "seen", "name"] ["names", "known"] (defScope s_check_names) := ⟨rfl, rfl, rfl, by decide +kernel, rfl, by decide +kernel, by decide +kernel⟩
def spCheckNames (K : PySem.W.Frag) (CU CD : Addr) : Sp := fun vs H Q E => ∃ (a c : Addr) (ws ks : List Str), vs = [.ref a, .ref c] ∧ SqL K H a (ws.map V.str) ∧ Sq K H c (ks.map V.str) ∧ ws.length ≤ 1000 ∧
  (chk ks [] ws = none → ∀ (p : Addr) (H' : Hp), H p = none → Same H H' → H' p = some (.tup (ws.map V.str)) → Q (.ref p) H') ∧
  (∀ n, chk ks [] ws = some (true, n) → Rais E H CU [("name", .str n)]) ∧ (∀ n, chk ks [] ws = some (false, n) → Rais E H CD [("name", .str n)])
theorem ok_check_names {k : Nat} {C_UnknownName f_UnknownName C_DoubleName f_DoubleName : Addr} (B : Bl mg) (X_UnknownName : ErrTxt P K mg false "UnknownName" C_UnknownName f_UnknownName ["name"]) (X_DoubleName : ErrTxt P K mg false "DoubleName" C_DoubleName f_DoubleName ["name"])
    (F : Src K mg "check_names" s_check_names ["names", "known"]) : Def P w K mg base (L2.CX P w) (k + 1) "check_names" ["names", "known"] (spCheckNames K C_UnknownName C_DoubleName) := by
  refine F.okX sc_check_names (fun vs H Q E h => ?_) (fun f cdv A outer s H vs Q E hr h => ?_)
  · obtain ⟨a, c, ws, ks, rfl, _⟩ := h
    rfl
  · obtain ⟨a, c, ws, ks, rfl, ha, hc, hlen, q1, q2, q3⟩ := h
    refine ⟨_, (pss_cons (ps_asg (pe_lst pa_nil) (pg_name (i := 2) sc_check_names.nd rfl (Or.inl rfl)))
 (pss_cons (ps_for (passes_of rfl) rfl (kpi_list (K := K) (pv 0)) (pg_name (i := 3) sc_check_names.nd rfl (Or.inl rfl)) (pss_cons (ps_if (pt_cmpR (kop_notIn (K := K)) (pv 3) (pv 1) rfl) (pss_one (ps_raiseE rfl X_UnknownName hr (takes_of rfl rfl rfl rfl) (pa_cons (pv 3) pa_nil))) pss_nil)
 (pss_cons (ps_if (pt_cmpR (kop_in (K := K)) (pv 3) (pv 2) rfl) (pss_one (ps_raiseE rfl X_DoubleName hr (takes_of rfl rfl rfl rfl) (pa_cons (pv 3) pa_nil))) pss_nil)
 (pss_one (ps_expr (pe_bm PySem.F.plainAttrs_list PySem.F.slot_list_append PySem.F.type_list_append mt_append (pv 2) (pa_cons (pv 3) pa_nil)))))))
 (pss_one (ps_ret (pe_callTy (kcall_tuple (K := K)) (by rfl) B.tuple' (by decide +kernel) (pa_cons (pv 2) pa_nil)))))), ?_⟩
    refine ⟨Nat.zero_le _, fun D nD => ?_⟩
    have s1 : Same H (upd H D (.lst [])) := same_upd nD
    refine ⟨_, rfl, a, rfl, ⟨_, s1.seq ha⟩, for_list (K := K) (a := a) (xs := ws.map V.str) (fun i σ H' => ∃ y, σ = [some (.ref a), some (.ref c), some (.ref D), y] ∧ Same H H' ∧ H' D = some (.lst ((ws.take i).map V.str)) ∧ chk ks [] ws = chk ks (ws.take i) (ws.drop i))
      ⟨none, rfl, s1, upd_same, rfl⟩ (fun i σ H' _ h' => by obtain ⟨_, _, sm, _⟩ := h'; exact sm.seq ha) ?_ ?_⟩
    · rintro i x σ H' hi ⟨y, rfl, sm, hD, hk⟩
      obtain ⟨n, hn, rfl⟩ := map_get hi
      have hdr : ws.drop i = n :: ws.drop (i + 1) := List.drop_eq_getElem?_toList_append.trans (by rw [hn]; rfl)
      rw [hdr, chk_cons] at hk
      refine ⟨_, rfl, _, rfl, c, _, rfl, sm.sq hc, rfl, flat_strsB _, _, rfl, ?_⟩
      rw [inV_strs]
      refine ite2 (fun h1 => ?_) (fun h1 => ?_)
      · have h1 : n ∉ ks := by simpa using h1
        rw [if_neg h1] at hk
        exact ⟨_, rfl, rfl, (fun e => by cases e), fun d hd => (q2 n hk).go sm hd⟩
      · have h1 : n ∈ ks := by simpa using h1
        rw [if_pos h1] at hk
        refine ⟨_, rfl, _, rfl, D, _, rfl, .inl (SqL.of hD), rfl, flat_strsB _, _, rfl, ?_⟩
        rw [inV_strs]
        refine ite2 (fun h2 => ?_) (fun h2 => ?_)
        · have h2 : n ∈ ws.take i := by simpa using h2
          rw [if_pos h2] at hk
          exact ⟨_, rfl, rfl, (fun e => by cases e), fun d hd => (q3 n hk).go sm hd⟩
        · have h2 : n ∉ ws.take i := by simpa using h2
          rw [if_neg h2] at hk
          refine ⟨_, rfl, .inl ⟨rfl, _, SqL.of hD⟩, _, rfl, D, _, _, rfl, rfl, hD, ?_, ?_⟩
          · rw [List.length_map, List.length_take]
            exact small1000 (by omega)
          · refine ⟨_, rfl, fun b o e => ?_, ?_, ?_⟩
            · rw [upd_ne (ne_of_none e nD)]
              exact sm b o e
            · rw [upd_same, take_more hn, List.map_append]
              rfl
            · rw [take_more hn]
              exact hk
    · rintro σ H' ⟨y, rfl, sm, hD, hk⟩
      rw [List.length_map, List.take_length] at hD
      rw [List.length_map, List.drop_length] at hk
      exact ⟨_, rfl, D, _, rfl, .inl ⟨SqL.of hD, fun l hl => q1 hk l _ (sm.free hl) (sm.trans (same_upd hl)) upd_same⟩⟩
end
section
variable {P : Program} {w : World} {K : PySem.W.Frag} {mg : Str → Option Value} {base : Heap}
def ordRow (pl : List Str) (r : SRow) : SRow := (r.1, inOrd pl r.2.1, inOrd pl r.2.2)
/-- errors of plans -/
def erOf (cs : ECs) : PErr → Er
  | .tooMany k l => ⟨cs.tooMany, [("limit", iz zI l), ("kind", iz zS k)]⟩
  | .badWord w => ⟨cs.badWord, [("word", iz zS w)]⟩
  | .double n => ⟨cs.double, [("name", iz zS n)]⟩
  | .badNumber n => ⟨cs.badNumber, [("number", iz zI n)]⟩
  | .empty n => ⟨cs.empty, [("name", iz zS n)]⟩
  | .unknown n => ⟨cs.unknown, [("name", iz zS n)]⟩
def preIsWord : Pre := fun ps out err => ∃ z, ps = [iz zS z] ∧ z.length ≤ 1000 ∧ out = (· = iz zB (wd z.cps.toList)) ∧ err = noErr
theorem len_line {z : Str} (h : z.length ≤ 1000) : z.length ≤ sizeLine := Nat.le_of_lt (small1000 h)
theorem isWordG {k : Nat} {ps : List Str} (D : Def P w K mg base CX0 k "is_word" ps spIsWord) : Def P w K mg base CX0 k "is_word" ps (spA preIsWord) := D.imp fun vs H Q E ⟨F, qs, out, err, fh, hps, ⟨z, e1, hz, e2, e3⟩, post, _⟩ => by
  subst e1 e2 e3
  cases hps with
  | cons h1 hp => cases hp with
    | nil =>
      obtain ⟨h1, _⟩ := h1
      subst h1
      exact ⟨z, rfl, len_line hz, fun H' hh => post.flat fh rfl (fun _ => rfl) hh⟩
def preCheckWord (cs : ECs) : Pre := fun ps out err => ∃ z, ps = [iz zS z] ∧ z.length ≤ 1000 ∧ out = (fun p => wd z.cps.toList = true ∧ p = iz zS z) ∧ err = fun e => wd z.cps.toList = false ∧ e = erOf cs (.badWord z)
theorem checkWordG {k : Nat} {cs : ECs} {ps : List Str} (D : Def P w K mg base (L2.CX P w) k "check_word" ps (spCheckWord cs.badWord)) : Def P w K mg base (L2.CX P w) k "check_word" ps (spA (preCheckWord cs)) := D.imp fun vs H Q E ⟨F, qs, out, err, fh, hps, ⟨z, e1, hz, e2, e3⟩, post, pers⟩ => by
  subst e1 e2 e3
  cases hps with
  | cons h1 hp => cases hp with
    | nil =>
      obtain ⟨h1, ha⟩ := h1
      subst h1
      exact ⟨z, rfl, len_line hz, fun h H' hh => post.flat fh ⟨h, rfl⟩ (fun _ => ⟨rfl, ha⟩) hh, fun h => pers.rais fh ⟨h, rfl⟩ (fs1S ha)⟩
def preCheckNumber (cs : ECs) : Pre := fun ps out err => ∃ n lo hi : Int, ps = [iz zI n, iz zI lo, iz zI hi] ∧ out = (fun p => (lo ≤ n ∧ n ≤ hi) ∧ p = iz zI n) ∧ err = fun e => ¬ (lo ≤ n ∧ n ≤ hi) ∧ e = erOf cs (.badNumber n)
theorem checkNumberG {k : Nat} {cs : ECs} {ps : List Str} (D : Def P w K mg base (L2.CX P w) k "check_number" ps (spCheckNumber cs.badNumber)) : Def P w K mg base (L2.CX P w) k "check_number" ps (spA (preCheckNumber cs)) := D.imp fun vs H Q E ⟨F, qs, out, err, fh, hps, ⟨n, lo, hi, e1, e2, e3⟩, post, pers⟩ => by
  subst e1 e2 e3
  cases hps with
  | cons h1 hp => cases hp with
    | cons h2 hp => cases hp with
      | cons h3 hp => cases hp with
        | nil =>
          have h1 : _ = V.int n := h1
          have h2 : _ = V.int lo := h2
          have h3 : _ = V.int hi := h3
          subst h1 h2 h3
          exact ⟨n, lo, hi, rfl, fun h => post.flat fh ⟨h, rfl⟩ (fun _ => rfl) (Same.refl H), fun h => pers.rais fh ⟨h, rfl⟩ fs1I⟩
def preCheckNames (cs : ECs) : Pre := fun ps out err => ∃ ws ks : List Str, (ps = [iz (zL zS) ws, iz (zT zS) ks] ∨ ps = [iz (zL zS) ws, iz (zL zS) ks]) ∧ ws.length ≤ 1000 ∧ out = (fun p => chk ks [] ws = none ∧ p = iz (zT zS) ws) ∧ err = fun e => ∃ x, chk ks [] ws = some x ∧ e = erOf cs (nameErr x)
theorem checkNamesG {k : Nat} {cs : ECs} {ps : List Str} (D : Def P w K mg base (L2.CX P w) k "check_names" ps (spCheckNames K cs.unknown cs.double)) : Def P w K mg base (L2.CX P w) k "check_names" ps (spA (preCheckNames cs)) := D.imp fun vs H Q E ⟨F, qs, out, err, fh, hps, ⟨ws, ks, e1, hl, e2, e3⟩, post, pers⟩ => by
  subst e2 e3
  have key : ∃ a c, vs = [.ref a, .ref c] ∧ H a = some (.lst (ws.map V.str)) ∧ (∀ y ∈ ws, Asc y) ∧ (SqT K H c (ks.map V.str) ∨ H c = some (.lst (ks.map V.str))) := by
    rcases e1 with e1 | e1
    · subst e1
      cases hps with
      | cons h1 hp => cases hp with
        | cons h2 hp => cases hp with
          | nil =>
            obtain ⟨a, us, rfl, h1, h3⟩ := h1
            obtain ⟨c, us', rfl, h2, h4⟩ := h2
            obtain ⟨rfl, h5⟩ := pvs_S h3
            obtain ⟨rfl, _⟩ := pvs_S h4
            exact ⟨a, c, rfl, fh _ _ h1, h5, .inl (h2.sq fh)⟩
    · subst e1
      cases hps with
      | cons h1 hp => cases hp with
        | cons h2 hp => cases hp with
          | nil =>
            obtain ⟨a, us, rfl, h1, h3⟩ := h1
            obtain ⟨c, us', rfl, h2, h4⟩ := h2
            obtain ⟨rfl, h5⟩ := pvs_S h3
            obtain ⟨rfl, _⟩ := pvs_S h4
            exact ⟨a, c, rfl, fh _ _ h1, h5, .inr (fh _ _ h2)⟩
  obtain ⟨a, c, rfl, ha, hw, hc⟩ := key
  refine ⟨a, c, ws, ks, rfl, SqL.of ha, ?_, hl, fun h p H' np hh hp => ?_, fun n h => ?_, fun n h => ?_⟩
  · rcases hc with hc | hc
    · exact .inr hc
    · exact .inl (SqL.of hc)
  · exact post.new fh ⟨h, rfl⟩ hh ⟨p, _, rfl, .inl (newF_at np hp), strs_pvs hw⟩
  · exact pers.rais fh ⟨_, h, rfl⟩ (fs1S (hw n (chk_mem h)))
  · exact pers.rais fh ⟨_, h, rfl⟩ (fs1S (hw n (chk_mem h)))
abbrev s_in_order : Stmt := topS 22
theorem sc_in_order : FnScope ["names", "places", "known", "place"] ["names", "places"] (defScope s_in_order) := ⟨rfl, rfl, rfl, by decide +kernel, rfl, by decide +kernel, by decide +kernel⟩
def preInOrder (cs : ECs) : Pre := fun ps out err => ∃ ws ks : List Str, ps = [iz (zL zS) ws, iz (zT zS) ks] ∧ ws.length ≤ 1000 ∧ ks.length ≤ 1000 ∧ out = (fun p => chk ks [] ws = none ∧ p = iz (zN zS) (inOrd ks ws)) ∧ err = fun e => ∃ x, chk ks [] ws = some x ∧ e = erOf cs (nameErr x)
theorem ok_in_orderG {k : Nat} {cs : ECs} (B : Bl mg) (D_check_names : Def P w K mg base (L2.CX P w) k "check_names" ["names", "known"] (spA (preCheckNames cs)))
    (F : Src K mg "in_order" s_in_order ["names", "places"]) : Def P w K mg base (L2.CX P w) (k + 1) "in_order" ["names", "places"] (spA (preInOrder cs)) := by
  refine F.okAX sc_in_order (fun qs out err ⟨_, _, h, _⟩ => by rw [h]; rfl) (fun f cdv A outer s H E qs out err hr hpre => ?_)
  obtain ⟨ws, ks, rfl, hl1, hl2, rfl, rfl⟩ := hpre
  refine ⟨_, (pss_cons (ps_asg (pe_def D_check_names hr (passes_call (takes_of rfl rfl rfl rfl) (fun _ _ _ _ h => h)) (pa_cons (pv 0) (pa_cons (pv 1) pa_nil))) (pg_name (i := 2) sc_in_order.nd rfl (Or.inr rfl)))
 (pss_one (ps_ret (pe_callTy (kcall_tuple (K := K)) (by rfl) B.tuple' (by decide +kernel) (pa_cons (pe_lc (own := [("place", 3)]) (g := gName 3) (by rfl) sc_in_order.nd (kpi_tup (K := K) (pv 1)) (blkOk_by (N := ["names", "places", "known", "place"]) (sc := defScope s_in_order) (by decide +kernel)) (fun _ _ _ _ _ => (pg_name (i := 3) sc_in_order.nd rfl (Or.inl rfl))) (fun _ _ _ _ _ => pts_one (pt_cmpR (kop_in (K := K)) (pv 3) (pv 2) rfl)) (fun _ _ _ _ _ => (pv 3))) pa_nil))))), fun fr Q hret hrse => ?_⟩
  ac_rfl
  refine sps_A ⟨ws, ks, .inl rfl, hl1, rfl, rfl⟩ (fun p ⟨hc, hp⟩ => ?_) (fun e he => kr_E hrse he)
  subst hp
  ac_rfl
  refine we_lc (r := zS) (s := zS) (xs := ks) (pr := fun x => decide (x ∈ ws)) (f := fun x => x) ?_ hl2 (fun x => tg_name) (fun x hx c => ?_) (fun x hx hp c => ?_) ?_
  · ac_rfl
  · ac_rfl
  · ac_rfl
  · refine wa_nil (cb_tupleLN ?_)
    ac_rfl
    refine hret _ ⟨hc, ?_⟩ _
    rw [List.map_id']
    rfl
/-- the places may stand at a bare place -/
def preInOrderK (cs : ECs) : Pre := fun ps out err => ∃ ws ks : List Str, ps = [iz (zL zS) ws, iz zK ks] ∧ ws.length ≤ 1000 ∧ ks.length ≤ 1000 ∧ out = (fun p => chk ks [] ws = none ∧ p = iz (zN zS) (inOrd ks ws)) ∧ err = fun e => ∃ x, chk ks [] ws = some x ∧ e = erOf cs (nameErr x)
theorem inOrderK {k : Nat} {cs : ECs} {ps : List Str} (D : Def P w K mg base (L2.CX P w) k "in_order" ps (spA (preInOrder cs))) : Def P w K mg base (L2.CX P w) k "in_order" ps (spA (preInOrderK cs)) := D.imp fun vs H Q E ⟨F, qs, out, err, fh, hps, ⟨ws, ks, e1, r⟩, post, pers⟩ => by
  subst e1
  refine ⟨F, _, out, err, fh, ?_, ⟨ws, ks, rfl, r⟩, post, pers⟩
  cases hps with
  | cons h1 hp => cases hp with
    | cons h2 hp =>
      cases hp
      exact .cons h1 (.cons (le_KT _ _ h2) .nil)
end
section
variable {P : Program} {w : World} {K : PySem.W.Frag} {mg : Str → Option Value} {base : Heap}
theorem kvs_keys {F : Hp} {α : Type} {r : Rep α} {kvs : List (L2.Key × V)} {rows : List (Str × α)} (h : KVs r F kvs rows) : (kvs.map fun kv => kV kv.1) = (rows.map (·.1)).map V.str := by
  induction h with
  | nil => rfl
  | cons a _ ih =>
    rw [List.map_cons, List.map_cons, List.map_cons, ih, a.1]
    rfl
theorem cb_listD {fr : L2.Fr} {Θ : List Cel} {Kk : Vp → List Cel → Prop} {α : Type} {r : Rep α} {rows : List (Str × α)} {p : Vp} (h : DicP fr Θ p r rows) (ha : ∀ x ∈ rows, Asc x.1) (k : Kk (iz (zL zS) (rows.map (·.1))) Θ) : Cbs fr Θ rListD [p] Kk := fun F H vs ok hps Q q => by
  cases hps with
  | cons h1 hp => cases hp with
    | nil =>
      obtain ⟨a, kvs, rfl, h2, h3⟩ := h F H _ ok h1
      refine ⟨a, kvs, rfl, h2, fun l nl => ?_⟩
      rw [kvs_keys h3]
      exact q.new k ok nl ⟨l, _, rfl, upd_same, strs_pvs fun y hy => by
        obtain ⟨x, hx, rfl⟩ := List.mem_map.mp hy
        exact ha x hx⟩
def tkR (ss : List SRow) : List (Str × List Str) := ss.map fun s => (s.1, s.2.1)
def gvR (ss : List SRow) : List (Str × List Str) := ss.map fun s => (s.1, s.2.2)
def planFs (pl : List Str) (bg : List Int) (td tg : Addr) : List (Str × Vp) := [("places", iz zK pl), ("begin", iz (zT zI) bg), ("taken", zAt td), ("given", zAt tg)]
/-- the cells of a plan that is being built -/
def halfC (x C dx td tg : Addr) (pl : List Str) (bg : List Int) (ss : List SRow) : List Cel := [cI x C dx (planFs pl bg td tg), cD td (zN zS) (tkR ss), cD tg (zN zS) (gvR ss)]
theorem tkR_names (ss : List SRow) : (tkR ss).map (·.1) = ss.map (·.1) := by unfold tkR; rw [List.map_map]; rfl
theorem gvR_names (ss : List SRow) : (gvR ss).map (·.1) = ss.map (·.1) := by unfold gvR; rw [List.map_map]; rfl
theorem some_iff {α : Type} {rows : List (Str × α)} {n : Str} : (getR rows n).isSome = decide (n ∈ rows.map (·.1)) := by
  cases e : getR rows n with
  | none => rw [decide_eq_false (getR_none.mp e)]; rfl
  | some x => rw [decide_eq_true (List.mem_map.mpr ⟨_, getR_mem e, rfl⟩)]; rfl
theorem putR_new {α : Type} {rows : List (Str × α)} {n : Str} {x : α} (h : n ∉ rows.map (·.1)) : putR rows n x = rows ++ [(n, x)] := if_neg h
abbrev s_Plan_put_step : Stmt := inClass (topS 23) 1
theorem sc_Plan_put_step : FnScope ["self", "word", "takes", "gives", "taken"] ["self", "word", "takes", "gives"] (defScope s_Plan_put_step) := ⟨rfl, rfl, rfl, by decide +kernel, rfl, by decide +kernel, by decide +kernel⟩
def prePut (cs : ECs) (C : Addr) : PreC := fun ps Θ out err => ∃ x dx td tg pl bg ss r, ps = [zAt x, iz zS r.1, iz (zL zS) r.2.1, iz (zL zS) r.2.2] ∧ Θ = halfC x C dx td tg pl bg ss ∧ r.1.length ≤ 1000 ∧ r.2.1.length ≤ 1000 ∧ r.2.2.length ≤ 1000 ∧ pl.length ≤ 12 ∧ ss.length ≤ 16 ∧
  out = (fun p Θ' => stepDue pl (ss.map (·.1)) r = none ∧ p = zNon ∧ Θ' = halfC x C dx td tg pl bg (ss ++ [ordRow pl r])) ∧ err = fun e Θ' => ∃ y, stepDue pl (ss.map (·.1)) r = some y ∧ e = erOf cs y ∧ Θ' = Θ
theorem ok_put_stepG {k : Nat} {cs : ECs} {C f_DoubleName f_EmptyStep : Addr} (B : Bl mg) (T_Plan : PlanC K mg C) (X_DoubleName : ErrTxt P K mg false "DoubleName" cs.double f_DoubleName ["name"]) (X_EmptyStep : ErrTxt P K mg false "EmptyStep" cs.empty f_EmptyStep ["name"])
    (D_check_word : Def P w K mg base (L2.CX P w) k "check_word" ["word"] (spA (preCheckWord cs))) (D_in_order : Def P w K mg base (L2.CX P w) k "in_order" ["names", "places"] (spA (preInOrder cs)))
    (F : SrcM K C "put_step" "Plan.put_step" s_Plan_put_step ["self", "word", "takes", "gives"]) : DefM P w K mg base (L2.CX P w) (k + 1) C "put_step" ["self", "word", "takes", "gives"] (spC (prePut cs C)) := by
  refine F.okCX sc_Plan_put_step (fun qs Θ out err ⟨x, dx, td, tg, pl, bg, ss, r, h1, h2, _⟩ => ⟨by rw [h1]; rfl, fun c hc => by
    subst h2
    simp only [halfC, List.mem_cons, List.not_mem_nil, or_false] at hc
    rcases hc with rfl | rfl | rfl <;> rfl⟩) (fun f cdv A outer s H E qs Θ out err hr hpre => ?_)
  obtain ⟨x, dx, td, tg, pl, bg, ss, r, rfl, rfl, l1, l2, l3, lp, ls, rfl, rfl⟩ := hpre
  replace D_in_order := inOrderK D_in_order
  refine ⟨_, (pss_cons (ps_expr (pe_def D_check_word hr (passes_call (takes_of rfl rfl rfl rfl) (fun _ _ _ _ h => h)) (pa_cons (pv 1) pa_nil)))
 (pss_cons (ps_if (pt_cmp (pc_din (hu_of hr) (pv 1) (kpe_fld (K := K) (pv 0)))) (pss_one (ps_raiseE rfl X_DoubleName hr (takes_of rfl rfl rfl rfl) (pa_cons (pv 1) pa_nil))) pss_nil)
 (pss_cons (ps_if (pt_cmpR op_eq (pe_callB (kcall_len (K := K)) (by rfl) B.len PySem.boot_len (pa_cons (pv 2) pa_nil)) pe_int (nomark _)) (pss_one (ps_raiseE rfl X_EmptyStep hr (takes_of rfl rfl rfl rfl) (pa_cons (pv 1) pa_nil))) pss_nil)
 (pss_cons (ps_asg (pe_def D_in_order hr (passes_call (takes_of rfl rfl rfl rfl) (fun _ _ _ _ h => h)) (pa_cons (pv 2) (pa_cons (kpe_fld (K := K) (pv 0)) pa_nil))) (pg_name (i := 4) sc_Plan_put_step.nd rfl (Or.inl rfl)))
 (pss_cons (ps_dput (hu_of hr) (kpe_fld (K := K) (pv 0)) (pv 1) (pe_def D_in_order hr (passes_call (takes_of rfl rfl rfl rfl) (fun _ _ _ _ h => h)) (pa_cons (pv 3) (pa_cons (kpe_fld (K := K) (pv 0)) pa_nil))) rfl)
 (pss_one (ps_dput (hu_of hr) (kpe_fld (K := K) (pv 0)) (pv 1) (pv 4) rfl))))))), fun fr Q hret hrse => ?_⟩
  have er : ∀ {Γ : Gam} {y : PErr}, stepDue pl (ss.map (·.1)) r = some y → Kr fr Γ (halfC x C dx td tg pl bg ss) (fun cls d _ H => E cls d H) (erOf cs y) := fun {Γ y} h => kr_C hrse ⟨y, h, rfl, rfl⟩ rfl (Θx := []) (by rw [List.append_nil])
  -- check_word(word)
  bv_omega
  refine kn_drop ?_
  ac_rfl
  refine sps_A ⟨r.1, rfl, l1, rfl, rfl⟩ (fun p ⟨hw, hp⟩ => ?_) (fun e ⟨hw, he⟩ => ?_)
  rotate_left
  · subst he
    refine er ?_
    unfold stepDue
    rw [if_neg (by rw [hw]; exact Bool.false_ne_true)]
  -- if word in self.taken
  ac_rfl
  refine ⟨_, fld_C (.head _) T_Plan.cl T_Plan.nT rfl, _, _, _, _, dic_C (.tail _ (.head _)), rfl, _, rfl, ?_⟩
  rw [some_iff, tkR_names]
  refine ⟨fun h => ?_, fun h => ?_⟩
  · have h := of_decide_eq_true h
    ac_rfl
    refine ⟨rfl, (fun h => nomatch h), er (y := .double r.1) ?_⟩
    unfold stepDue
    rw [if_pos hw, if_pos h]
  have h1 := of_decide_eq_false h
  -- if len(takes) == 0
  ac_rfl
  refine ⟨fun h => ?_, fun h => ?_⟩
  · have h := of_decide_eq_true h
    ac_rfl
    refine ⟨rfl, (fun h => nomatch h), er (y := .empty r.1) ?_⟩
    unfold stepDue
    rw [if_pos hw, if_neg h1, if_pos (List.length_eq_zero_iff.mp (by omega))]
  have h2 : r.2.1 ≠ [] := fun q => of_decide_eq_false h (by rw [q]; rfl)
  -- taken
  ac_rfl
  refine ⟨_, fld_C (.head _) T_Plan.cl T_Plan.nP rfl, ?_⟩
  ac_rfl
  refine sps_A ⟨_, _, rfl, l2, by omega, rfl, rfl⟩ (fun p ⟨hc, hp⟩ => ?_) (fun e ⟨y, hy, he⟩ => ?_)
  rotate_left
  · subst he
    refine er ?_
    unfold stepDue
    rw [if_pos hw, if_neg h1, if_neg h2, hy]
  subst hp
  -- given
  ac_rfl
  refine kn_dput ?_
  ac_rfl
  refine ⟨_, fld_C (.head _) T_Plan.cl T_Plan.nP rfl, ?_⟩
  ac_rfl
  refine sps_A ⟨_, _, rfl, l3, by omega, rfl, rfl⟩ (fun p ⟨hc2, hp⟩ => ?_) (fun e ⟨y, hy, he⟩ => ?_)
  rotate_left
  · subst he
    refine er ?_
    unfold stepDue
    rw [if_pos hw, if_neg h1, if_neg h2, hc, hy]
    rfl
  subst hp
  have hdue : stepDue pl (ss.map (·.1)) r = none := by
    unfold stepDue
    rw [if_pos hw, if_neg h1, if_neg h2, hc, hc2]
    rfl
  ac_rfl
  refine ⟨_, fld_C (.head _) T_Plan.cl T_Plan.nG rfl, ?_⟩
  ac_rfl
  refine ⟨_, _, _, _, _, tg, 2, rfl, rfl, rfl, rfl, by unfold gvR; rw [List.length_map]; omega, ?_⟩
  subst_vars
  refine kn_dput ?_
  ac_rfl
  refine ⟨_, fld_C (.head _) T_Plan.cl T_Plan.nT rfl, ?_⟩
  ac_rfl
  refine ⟨_, _, _, _, _, td, 1, rfl, rfl, rfl, rfl, by unfold tkR; rw [List.length_map]; omega, ?_⟩
  rw [putR_new (by rw [gvR_names]; exact h1), putR_new (by rw [tkR_names]; exact h1)]
  have e1 : tkR ss ++ [(r.1, inOrd pl r.2.1)] = tkR (ss ++ [ordRow pl r]) := by unfold tkR; rw [List.map_append]; rfl
  have e2 : gvR ss ++ [(r.1, inOrd pl r.2.2)] = gvR (ss ++ [ordRow pl r]) := by unfold gvR; rw [List.map_append]; rfl
  rw [e1, e2]
  intro σ F' H' ok env
  exact hret zNon _ ⟨hdue, rfl, rfl⟩ rfl _ [] (by rw [List.append_nil]; exact .refl _) .non F' H' ok rfl
end
section
variable {P : Program} {w : World} {K : PySem.W.Frag} {mg : Str → Option Value} {base : Heap}
theorem fsok_none {F : Hp} {m : Str} : ∀ {fs : List (Str × Vp)} {us : List (Str × V)}, FsOk F fs us → fs.lookup m = none → us.lookup m = none
  | _, _, .nil, _ => rfl
  | (f1, f2) :: fs, (u1, u2) :: us, .cons ⟨h1, _⟩ r, h => by
    have h1 : f1 = u1 := h1
    subst h1
    rw [List.lookup_cons] at h ⊢
    cases e : (m == f1) with
    | true => rw [e] at h; cases h
    | false => rw [e] at h; exact fsok_none r h
theorem fsok_cons {F : Hp} {f : Str} {p : Vp} {fs : List (Str × Vp)} {us : List (Str × V)} (h : FsOk F ((f, p) :: fs) us) : ∃ w us', us = (f, w) :: us' ∧ p.p F w ∧ FsOk F fs us' := by
  cases us with
  | nil => cases h
  | cons u us =>
    cases h with
    | cons a b =>
      obtain ⟨u1, u2⟩ := u
      obtain ⟨a1, a2⟩ := a
      have a1 : f = u1 := a1
      subst a1
      exact ⟨u2, us, rfl, a2, b⟩
theorem ins_C {fr : L2.Fr} {Θ : List Cel} {a C dx : Addr} {fs : List (Str × Vp)} {m : Str} (hc : cI a C dx fs ∈ Θ) (hm : fs.lookup m = none) : InsP fr Θ (zAt a) C m := fun F H v ok hv => by
  obtain ⟨_, ⟨o, h2, us, rfl, h6⟩, _⟩ := ok.ce _ hc
  exact ⟨a, dx, us, hv, h2, fsok_none h6 hm⟩
def PRowsOk (prs : List (Str × Int)) : Prop := ∀ r ∈ prs, r.1.length ≤ 1000
def SRowsOk (srs : List SRow) : Prop := ∀ r ∈ srs, r.1.length ≤ 1000 ∧ r.2.1.length ≤ 1000 ∧ r.2.2.length ≤ 1000
abbrev zPR : Rep (List (Str × Int)) := zL (z2 zS zI)
abbrev zSR : Rep (List SRow) := zL (z3 zS (zL zS) (zL zS))
theorem placesDue_ok : ∀ {prs : List (Str × Int)} {seen : List Str}, placesDue seen prs = none → seen.Nodup → (∀ r ∈ prs, Wd r.1 ∧ 0 ≤ r.2 ∧ r.2 ≤ 99) ∧ (seen ++ prs.map (·.1)).Nodup
  | [], seen, _, hs => ⟨(fun r hr => by cases hr), by simpa using hs⟩
  | (w, n) :: r, seen, h, hs => by
    rw [placesDue_cons] at h
    by_cases h1 : wd w.cps.toList = true
    · rw [if_pos h1] at h
      by_cases h2 : w ∈ seen
      · rw [if_pos h2] at h; cases h
      · rw [if_neg h2] at h
        by_cases h3 : 0 ≤ n ∧ n ≤ 99
        · rw [if_pos h3] at h
          obtain ⟨a, b⟩ := placesDue_ok h (nodup_snoc hs h2)
          refine ⟨fun x hx => ?_, ?_⟩
          · rcases List.mem_cons.mp hx with rfl | hx
            · exact ⟨h1, h3⟩
            · exact a x hx
          · rw [List.map_cons]
            rw [List.append_assoc] at b
            exact b
        · rw [if_neg h3] at h; cases h
    · rw [if_neg h1] at h; cases h
theorem stepDue_ok {pl seen : List Str} {s : SRow} (h : stepDue pl seen s = none) : Wd s.1 ∧ s.1 ∉ seen ∧ s.2.1 ≠ [] ∧ chk pl [] s.2.1 = none ∧ chk pl [] s.2.2 = none := by
  unfold stepDue at h
  by_cases h1 : wd s.1.cps.toList = true
  · rw [if_pos h1] at h
    by_cases h2 : s.1 ∈ seen
    · rw [if_pos h2] at h; cases h
    · rw [if_neg h2] at h
      by_cases h3 : s.2.1 = []
      · rw [if_pos h3] at h; cases h
      · rw [if_neg h3] at h
        cases h4 : chk pl [] s.2.1 with
        | some x => rw [h4] at h; cases h
        | none =>
          rw [h4] at h
          cases h5 : chk pl [] s.2.2 with
          | some x => rw [h5] at h; cases h
          | none => exact ⟨h1, h2, h3, rfl, rfl⟩
  · rw [if_neg h1] at h; cases h
theorem stepsDue_ok {pl : List Str} : ∀ {srs : List SRow} {seen : List Str}, stepsDue pl seen srs = none → seen.Nodup → (∀ r ∈ srs, Wd r.1 ∧ r.2.1 ≠ [] ∧ chk pl [] r.2.1 = none ∧ chk pl [] r.2.2 = none) ∧ (seen ++ srs.map (·.1)).Nodup
  | [], seen, _, hs => ⟨(fun r hr => by cases hr), by simpa using hs⟩
  | s :: r, seen, h, hs => by
    rw [stepsDue_cons] at h
    cases h1 : stepDue pl seen s with
    | some e => rw [h1] at h; cases h
    | none =>
      rw [h1] at h
      obtain ⟨a1, a2, a3, a4, a5⟩ := stepDue_ok h1
      obtain ⟨a, b⟩ := stepsDue_ok h (nodup_snoc hs a2)
      refine ⟨fun x hx => ?_, ?_⟩
      · rcases List.mem_cons.mp hx with rfl | hx
        · exact ⟨a1, a3, a4, a5⟩
        · exact a x hx
      · rw [List.map_cons]
        rw [List.append_assoc] at b
        exact b
theorem inOrd_idem (pl ns : List Str) : inOrd pl (inOrd pl ns) = inOrd pl ns := by
  unfold inOrd
  refine List.filter_congr fun y hy => ?_
  rw [decide_eq_decide, List.mem_filter, decide_eq_true_iff]
  exact ⟨fun h => h.2, fun h => ⟨hy, h⟩⟩
theorem planDue_ok {prs : List (Str × Int)} {srs : List SRow} (h : planDue prs srs = none) : PlanOk (planOf prs srs) := by
  unfold planDue at h
  by_cases h1 : 12 < prs.length
  · rw [if_pos h1] at h; cases h
  rw [if_neg h1] at h
  by_cases h2 : 16 < srs.length
  · rw [if_pos h2] at h; cases h
  rw [if_neg h2] at h
  cases h3 : placesDue [] prs with
  | some e => rw [h3] at h; cases h
  | none =>
    rw [h3] at h
    obtain ⟨a, b⟩ := placesDue_ok h3 List.nodup_nil
    obtain ⟨c, d⟩ := stepsDue_ok h List.nodup_nil
    refine ⟨fun y hy => ?_, by simpa [planOf] using b, by simp [planOf], fun n hn => ?_, fun r hr => ?_, ?_, by simp [planOf]; omega, by simp [planOf]; omega⟩
    · obtain ⟨r, hr, rfl⟩ := List.mem_map.mp hy
      exact (a r hr).1
    · obtain ⟨r, hr, rfl⟩ := List.mem_map.mp hn
      exact (a r hr).2
    · obtain ⟨s, hs, rfl⟩ := List.mem_map.mp hr
      obtain ⟨c1, c2, c3, c4⟩ := c s hs
      refine ⟨c1, fun q => c2 ?_, inOrd_idem _ _, inOrd_idem _ _⟩
      obtain ⟨n1, n2⟩ := chk_none.mp c3
      cases e : s.2.1 with
      | nil => rfl
      | cons y ys =>
        have hy : y ∈ s.2.1 := by rw [e]; exact List.mem_cons_self ..
        have : y ∈ inOrd (prs.map (·.1)) s.2.1 := by
          unfold inOrd
          exact List.mem_filter.mpr ⟨(n2 y hy).1, decide_eq_true hy⟩
        have q : inOrd (prs.map (·.1)) s.2.1 = [] := q
        rw [q] at this
        cases this
    · have : (planOf prs srs).names = srs.map (·.1) := by
        unfold PlanD.names planOf
        rw [List.map_map]
        rfl
      rw [this]
      simpa using d
theorem kvs_tab {F : Hp} : ∀ {kvs : List (L2.Key × V)} {rows : List (Str × List Str)}, KVs (zN zS) F kvs rows → TabAt F kvs rows
  | _, _, .nil => .nil
  | _, _, .cons ⟨h1, t, us, h2, h3, h4⟩ r => by
    obtain ⟨rfl, _⟩ := pvs_S h4
    exact .cons ⟨h1, t, h2, h3⟩ (kvs_tab r)
/-- a plan that is built is frozen -/
theorem plan_frz {fr : L2.Fr} {Θ : List Cel} {F H : Hp} {x C dx td tg : Addr} {d : PlanD} (ok : OkF fr (cI x C dx [("places", iz zK d.places), ("begin", iz (zT zI) d.begin), ("taken", zAt td), ("given", zAt tg), ("steps", iz (zT zS) d.names)] :: cD td (zN zS) d.tk :: cD tg (zN zS) d.gv :: Θ) F H) (hd : PlanOk d) : ∃ F', OkF fr Θ F' H ∧ (iz (zPlan C) d).p F' (.ref x) := by
  obtain ⟨n1, ⟨o, h1, us, rfl, f1⟩, _⟩ := ok.ce _ (.head _)
  obtain ⟨n2, ⟨o, h2, kt, rfl, f2⟩, _⟩ := ok.ce _ (.tail _ (.head _))
  obtain ⟨n3, ⟨o, h3, kg, rfl, f3⟩, _⟩ := ok.ce _ (.tail _ (.tail _ (.head _)))
  have h1 : H x = some (.ins C dx us) := h1
  have h2 : H td = some (.dK kt) := h2
  have h3 : H tg = some (.dK kg) := h3
  have ok1 := ok.frz (i := 0) rfl rfl h1
  have s1 : Same F (upd F x (.ins C dx us)) := same_upd n1
  have ok2 := ok1.frz (i := 0) rfl rfl h2
  have n2' : upd F x (.ins C dx us) td = none := (ok1.ce _ (.head _)).1
  have s2 := same_upd (o := .dK kt) n2'
  have ok3 := ok2.frz (i := 0) rfl rfl h3
  have n3' : upd (upd F x (.ins C dx us)) td (.dK kt) tg = none := (ok2.ce _ (.head _)).1
  have s3 := same_upd (o := .dK kg) n3'
  have s123 := (s1.trans s2).trans s3
  refine ⟨_, ok3, ?_⟩
  obtain ⟨w1, us1, rfl, ⟨tp, vp, rfl, p1, q1⟩, g1⟩ := fsok_cons f1
  obtain ⟨w2, us2, rfl, ⟨tb, vb, rfl, p2, q2⟩, g2⟩ := fsok_cons g1
  obtain ⟨w3, us3, rfl, e3, g3⟩ := fsok_cons g2
  obtain ⟨w4, us4, rfl, e4, g4⟩ := fsok_cons g3
  obtain ⟨w5, us5, rfl, ⟨ts, vs, rfl, p5, q5⟩, g5⟩ := fsok_cons g4
  have e3 : w3 = .ref td := e3
  have e4 : w4 = .ref tg := e4
  subst e3 e4
  cases g5
  obtain ⟨rfl, _⟩ := pvs_S q1
  have := pvs_I q2
  subst this
  obtain ⟨rfl, _⟩ := pvs_S q5
  exact ⟨x, rfl, ⟨dx, tp, tb, td, tg, ts, kt, kg, s3 _ _ (s2 _ _ upd_same), p1.mono s123, s123 _ _ (p2.nar rfl), s3 _ _ upd_same, upd_same, p5.mono s123, kvs_tab (f2.mono s123), kvs_tab (f3.mono s123)⟩, hd⟩
end
section
variable {P : Program} {w : World} {K : PySem.W.Frag} {mg : Str → Option Value} {base : Heap}
abbrev s_Plan___init__ : Stmt := inClass (topS 23) 0
theorem sc_Plan___init__ : FnScope ["self", "places", "steps", "words", "numbers", "word", "number", "takes", "gives"] ["self", "places", "steps"] (defScope s_Plan___init__) := ⟨rfl, rfl, rfl, by decide +kernel, rfl, by decide +kernel, by decide +kernel⟩
def preInit (cs : ECs) (C : Addr) : Pre := fun ps out err => ∃ prs srs, ps = [iz zPR prs, iz zSR srs] ∧ PRowsOk prs ∧ SRowsOk srs ∧ out = (fun p => planDue prs srs = none ∧ p = iz (zPlan C) (planOf prs srs)) ∧ err = fun e => ∃ y, planDue prs srs = some y ∧ e = erOf cs y
theorem ok_plan_initG {k : Nat} {cs : ECs} {C f_TooMany f_DoubleName : Addr} (B : Bl mg) (T_Plan : PlanC K mg C) (g_MOST_PLACES : Glo mg "MOST_PLACES" (.int 12)) (g_MOST_STEPS : Glo mg "MOST_STEPS" (.int 16)) (g_MOST_BEGIN : Glo mg "MOST_BEGIN" (.int 99))
    (X_TooMany : ErrTxt P K mg true "TooMany" cs.tooMany f_TooMany ["kind", "limit"]) (X_DoubleName : ErrTxt P K mg false "DoubleName" cs.double f_DoubleName ["name"])
    (D_check_word : Def P w K mg base (L2.CX P w) k "check_word" ["word"] (spA (preCheckWord cs))) (D_check_number : Def P w K mg base (L2.CX P w) k "check_number" ["number", "least", "most"] (spA (preCheckNumber cs)))
    (DM_Plan_put_step : DefM P w K mg base (L2.CX P w) k C "put_step" ["self", "word", "takes", "gives"] (spC (prePut cs C)))
    (F : SrcI K C "Plan.__init__" s_Plan___init__ ["self", "places", "steps"]) : DefI P w K mg base (L2.CX P w) (k + 1) C ["self", "places", "steps"] (spI C (preInit cs C)) := by
  refine F.okAX sc_Plan___init__ (fun qs out err ⟨_, _, h, _⟩ => by rw [h]; rfl) (fun f cdv A outer s H E qs out err hr hpre => ?_)
  obtain ⟨prs, srs, rfl, okP, okS, rfl, rfl⟩ := hpre
  refine ⟨_, (pss_cons (ps_if (pt_cmpR op_gt (pe_callB (kcall_len (K := K)) (by rfl) B.len PySem.boot_len (pa_cons (pv 1) pa_nil)) (pe_glo g_MOST_PLACES) (nomark _)) (pss_one (ps_raiseE rfl X_TooMany hr (takes_of rfl rfl rfl rfl) (pa_cons pe_str (pa_cons (pe_glo g_MOST_PLACES) pa_nil)))) pss_nil)
 (pss_cons (ps_if (pt_cmpR op_gt (pe_callB (kcall_len (K := K)) (by rfl) B.len PySem.boot_len (pa_cons (pv 2) pa_nil)) (pe_glo g_MOST_STEPS) (nomark _)) (pss_one (ps_raiseE rfl X_TooMany hr (takes_of rfl rfl rfl rfl) (pa_cons pe_str (pa_cons (pe_glo g_MOST_STEPS) pa_nil)))) pss_nil)
 (pss_cons (ps_asg (pe_lst pa_nil) (pg_name (i := 3) sc_Plan___init__.nd rfl (Or.inl rfl)))
 (pss_cons (ps_asg (pe_lst pa_nil) (pg_name (i := 4) sc_Plan___init__.nd rfl (Or.inl rfl)))
 (pss_cons (ps_for (passes_of rfl) rfl (kpi_list (K := K) (pv 1)) (pg_tup rfl (pgs_cons (pg_name (i := 5) sc_Plan___init__.nd rfl (Or.inl rfl)) (pgs_cons (pg_name (i := 6) sc_Plan___init__.nd rfl (Or.inl rfl)) pgs_nil))) (pss_cons (ps_expr (pe_def D_check_word hr (passes_call (takes_of rfl rfl rfl rfl) (fun _ _ _ _ h => h)) (pa_cons (pv 5) pa_nil)))
 (pss_cons (ps_if (pt_cmpR (kop_in (K := K)) (pv 5) (pv 3) rfl) (pss_one (ps_raiseE rfl X_DoubleName hr (takes_of rfl rfl rfl rfl) (pa_cons (pv 5) pa_nil))) pss_nil)
 (pss_cons (ps_expr (pe_bm PySem.F.plainAttrs_list PySem.F.slot_list_append PySem.F.type_list_append mt_append (pv 4) (pa_cons (pe_def D_check_number hr (passes_call (takes_of rfl rfl rfl rfl) (fun _ _ _ _ h => h)) (pa_cons (pv 6) (pa_cons pe_int (pa_cons (pe_glo g_MOST_BEGIN) pa_nil)))) pa_nil)))
 (pss_one (ps_expr (pe_bm PySem.F.plainAttrs_list PySem.F.slot_list_append PySem.F.type_list_append mt_append (pv 3) (pa_cons (pv 5) pa_nil))))))))
 (pss_cons (kps_fld (K := K) (pv 0) (pe_callTy (kcall_tupleX (K := K)) (by rfl) B.tuple' (by decide +kernel) (pa_cons (pv 3) pa_nil)))
 (pss_cons (kps_fld (K := K) (pv 0) (pe_callTy (kcall_tuple (K := K)) (by rfl) B.tuple' (by decide +kernel) (pa_cons (pv 4) pa_nil)))
 (pss_cons (kps_fld (K := K) (pv 0) pe_dnewK)
 (pss_cons (kps_fld (K := K) (pv 0) pe_dnewK)
 (pss_cons (ps_for (passes_of rfl) rfl (kpi_list (K := K) (pv 2)) (pg_tup rfl (pgs_cons (pg_name (i := 5) sc_Plan___init__.nd rfl (Or.inl rfl)) (pgs_cons (pg_name (i := 7) sc_Plan___init__.nd rfl (Or.inl rfl)) (pgs_cons (pg_name (i := 8) sc_Plan___init__.nd rfl (Or.inl rfl)) pgs_nil)))) (pss_one (ps_expr (pe_metD DM_Plan_put_step T_Plan.cl hr (fun σ => Passes.at (passes_call (takes_of rfl rfl rfl rfl) (fun _ _ _ _ h => h)) σ) (pv 0) (pa_cons (pv 5) (pa_cons (pv 7) (pa_cons (pv 8) pa_nil)))))))
 (pss_one (kps_fld (K := K) (pv 0) (pe_callTy (kcall_tuple (K := K)) (by rfl) B.tuple' (by decide +kernel) (pa_cons (pe_callTy (call_list_dK rfl) (by rfl) B.list' (by decide +kernel) (pa_cons (kpe_fld (K := K) (pv 0)) pa_nil)) pa_nil)))))))))))))), fun fr x dx Q rt hQ hrt hrse => ?_⟩
  have er : ∀ {fr' : L2.Fr} {Γ : Gam} {Θ : List Cel} {y : PErr}, FrLe fr fr' → planDue prs srs = some y → Kr fr' Γ Θ (fun cls d _ H => E cls d H) (erOf cs y) := fun {fr' Γ Θ y} le h => kr_E (hrse.fine le) ⟨y, h, rfl⟩
  have le0 : FrLe fr fr := ⟨rfl, rfl, Same.refl _, fun a o h => .inl ⟨o, h⟩⟩
  ac_rfl
  refine ⟨fun h => ?_, fun h => ?_⟩
  · have h := of_decide_eq_true h
    ac_rfl
    refine ⟨rfl, (fun _ => ⟨_, _, rfl, by decide⟩), er (y := .tooMany "places" 12) le0 ?_⟩
    unfold planDue
    rw [if_pos (by omega)]
  have h1 : ¬ 12 < prs.length := fun q => of_decide_eq_false h (by omega)
  ac_rfl
  refine ⟨fun h => ?_, fun h => ?_⟩
  · have h := of_decide_eq_true h
    ac_rfl
    refine ⟨rfl, (fun _ => ⟨_, _, rfl, by decide⟩), er (y := .tooMany "steps" 16) le0 ?_⟩
    unfold planDue
    rw [if_neg h1, if_pos (by omega)]
  have h2 : ¬ 16 < srs.length := fun q => of_decide_eq_false h (by omega)
  have pd1 : ∀ {y : PErr}, placesDue [] prs = some y → planDue prs srs = some y := fun {y} h => by
    unfold planDue
    rw [if_neg h1, if_neg h2, h]
  have pd2 : placesDue [] prs = none → planDue prs srs = stepsDue (prs.map (·.1)) [] srs := fun h => by
    unfold planDue
    rw [if_neg h1, if_neg h2, h]
  ac_rfl
  refine we_nil zS fun a1 => ?_
  ac_rfl
  refine we_nil zI fun a2 => ?_
  ac_rfl
  refine kn_forS (S := List (Str × Int)) (r := z2 zS zI) (xs := prs) (fun _ => [some (zAt x), some (iz zPR prs), some (iz zSR srs), some (zAt a1), some (zAt a2), none, none, none, none]) (fun d => [cL a2 zI (d.map (·.2)), cL a1 zS (d.map (·.1)), cI x C dx []])
    (fun i d => d = prs.take i ∧ placesDue [] prs = placesDue (d.map (·.1)) (prs.drop i)) [] ?_ ?_ ⟨rfl, rfl⟩ (fun x s => tg2 (by decide)) (fun fr' le i r d hi hP => ?_) (fun d hP => ?_)
  · ac_rfl
  · and_intros
  · obtain ⟨hd, hdue⟩ := hP
    obtain ⟨z, n⟩ := r
    rw [drop_at hi, placesDue_cons] at hdue
    have lz : z.length ≤ 1000 := okP _ (List.mem_of_getElem? hi)
    have ld : d.length ≤ 12 := by rw [hd]; have := List.length_take_le i prs; rw [List.length_take] at this ⊢; omega
    subst_vars
    bv_omega
    refine kn_drop ?_
    ac_rfl
    refine sps_A ⟨z, rfl, lz, rfl, rfl⟩ (fun p ⟨hw, hp⟩ => ?_) (fun e ⟨hw, he⟩ => ?_)
    rotate_left
    · subst he
      refine er le (pd1 ?_)
      rw [hdue, if_neg (by rw [hw]; exact Bool.false_ne_true)]
    rw [if_pos hw] at hdue
    ac_rfl
    refine ops_inS (seq_C (.tail _ (.head _))) ?_
    ac_rfl
    refine ⟨fun h => ?_, fun h => ?_⟩
    · have h := of_decide_eq_true h
      ac_rfl
      refine ⟨rfl, (fun h => nomatch h), er (y := .double z) le (pd1 ?_)⟩
      rw [hdue, if_pos h]
    have h3 := of_decide_eq_false h
    rw [if_neg h3] at hdue
    ac_rfl
    refine kn_append rfl (.head _) ?_
    ac_rfl
    refine sps_A ⟨n, 0, 99, rfl, rfl, rfl⟩ (fun p ⟨hn, hp⟩ => ?_) (fun e ⟨hn, he⟩ => ?_)
    rotate_left
    · subst he
      refine er le (pd1 ?_)
      rw [hdue, if_neg hn]
    subst hp
    rw [if_pos hn] at hdue
    refine ⟨_, 0, rfl, rfl, by rw [List.length_map]; omega, ?_⟩
    subst_vars
    refine kn_append rfl (.tail _ (.head _)) ?_
    ac_rfl
    refine ⟨_, 1, rfl, rfl, by rw [List.length_map]; omega, ?_⟩
    subst_vars
    refine kn_back (d ++ [(z, n)]) ?_ ⟨?_, ?_⟩ ?_
    · and_intros
    · rw [take_more hi, hd]
    · rw [hdue, List.map_append]
      rfl
    · rw [List.map_append, List.map_append]
      rfl
  obtain ⟨hd, hdue⟩ := hP
  rw [List.take_length] at hd
  subst hd
  rw [List.drop_length] at hdue
  have hdue : placesDue [] d = none := hdue
  have hpd := pd2 hdue
  subst_vars
  bv_omega
  refine kn_fldPut ?_
  ac_rfl
  refine cb_tupleX (.tail _ (.head _)) ?_
  ac_rfl
  refine ⟨x, C, dx, [], 2, rfl, rfl, T_Plan.cl, T_Plan.nP, by decide, ?_⟩
  subst_vars
  bv_omega
  refine kn_fldPut ?_
  ac_rfl
  refine cb_tupleC (.head _) ?_
  ac_rfl
  refine ⟨x, C, dx, _, 2, rfl, rfl, T_Plan.cl, T_Plan.nB, (show 1 < 1000 by decide), ?_⟩
  subst_vars
  bv_omega
  refine kn_fldPut (we_dnew (zN zS) fun td => ?_)
  ac_rfl
  refine ⟨x, C, dx, _, 3, rfl, rfl, T_Plan.cl, T_Plan.nT, (show 2 < 1000 by decide), ?_⟩
  subst_vars
  bv_omega
  refine kn_fldPut (we_dnew (zN zS) fun tg => ?_)
  ac_rfl
  refine ⟨x, C, dx, _, 4, rfl, rfl, T_Plan.cl, T_Plan.nG, (show 3 < 1000 by decide), ?_⟩
  subst_vars
  have e4 : putP "given" (zAt tg) (putP "taken" (zAt td) (putP "begin" (iz (zT zI) (d.map (·.2))) (putP "places" (iz zK (d.map (·.1))) []))) = planFs (d.map (·.1)) (d.map (·.2)) td tg := rfl
  rw [e4]
  refine Kn.perm (Θ' := halfC x C dx td tg (d.map (·.1)) (d.map (·.2)) [] ++ [cL a2 zI (d.map (·.2)), cL a1 zS (d.map (·.1))]) ?_ ?_
  rotate_left
  · unfold halfC
    refine (List.perm_append_singleton _ [cD tg (zN zS) [], cD td (zN zS) [], cL a2 zI (d.map (·.2)), cL a1 zS (d.map (·.1))]).trans (.cons _ (.swap _ _ _))
  bv_omega
  refine kn_forS (S := List SRow) (r := z3 zS (zL zS) (zL zS)) (xs := srs) (fun _ => [some (zAt x), some (iz zPR d), some (iz zSR srs), some (zAt a1), some (zAt a2), none, none, none, none])
    (fun ss => halfC x C dx td tg (d.map (·.1)) (d.map (·.2)) ss ++ [cL a2 zI (d.map (·.2)), cL a1 zS (d.map (·.1))])
    (fun i ss => ss = (srs.take i).map (ordRow (d.map (·.1))) ∧ stepsDue (d.map (·.1)) [] srs = stepsDue (d.map (·.1)) ((srs.take i).map (·.1)) (srs.drop i)) [] ?_ ?_ ⟨rfl, rfl⟩ (fun x s => tg3 (by decide) (by decide) (by decide)) (fun fr' le i r ss hi hP => ?_) (fun ss hP => ?_)
  · ac_rfl
  · and_intros
  · obtain ⟨hs, hsd⟩ := hP
    have hnm : ss.map (·.1) = (srs.take i).map (·.1) := by rw [hs, List.map_map]; rfl
    rw [drop_at hi, stepsDue_cons] at hsd
    obtain ⟨o1, o2, o3⟩ := okS r (List.mem_of_getElem? hi)
    have lss : ss.length ≤ 16 := by rw [hs, List.length_map, List.length_take]; omega
    subst_vars
    refine kn_drop (we_met (we_var rfl ⟨ins_C (.head _) rfl, ?_⟩))
    ac_rfl
    refine sps_C (Θr := [cL a2 zI (d.map (·.2)), cL a1 zS (d.map (·.1))]) ⟨x, dx, td, tg, d.map (·.1), d.map (·.2), ss, r, rfl, rfl, o1, o2, o3, by rw [List.length_map]; omega, lss, rfl, rfl⟩ (.refl _) (fun p Θ' ⟨hdn, hp, hΘ⟩ => ?_) (fun e Θ' ⟨y, hy, he, hΘ⟩ => ?_)
    · subst hp hΘ
      rw [hnm] at hdn
      rw [hdn] at hsd
      refine kn_back (ss ++ [ordRow (d.map (·.1)) r]) ?_ ⟨?_, ?_⟩ rfl
      · and_intros
      · rw [take_more hi, List.map_append, hs]
        rfl
      · rw [hsd, take_more hi, List.map_append]
        rfl
    · subst he hΘ
      rw [hnm] at hy
      rw [hy] at hsd
      exact er le (by rw [hpd]; exact hsd)
  obtain ⟨hs, hsd⟩ := hP
  rw [List.take_length] at hs
  rw [List.drop_length] at hsd
  have hsd : stepsDue (d.map (·.1)) [] srs = none := hsd
  have hall : planDue d srs = none := by rw [hpd]; exact hsd
  have hok := planDue_ok hall
  have hss : (planOf d srs).steps = ss := by rw [hs]; rfl
  subst_vars
  refine kn_fldPut ?_
  ac_rfl
  refine ⟨_, fld_C (.head _) T_Plan.cl T_Plan.nT rfl, ?_⟩
  ac_rfl
  refine cb_listD (dic_C (.tail _ (.head _))) (fun y hy => ?_) ?_
  · obtain ⟨r, hr, rfl⟩ := List.mem_map.mp hy
    rw [← hss] at hr
    exact (hok.st r hr).1.asc
  ac_rfl
  refine ⟨x, C, dx, _, 0, rfl, rfl, T_Plan.cl, T_Plan.nS, (show 4 < 1000 by decide), ?_⟩
  intro σ F' H' ok env
  have ed : (planOf d srs).names = (tkR ss).map (·.1) := by
    unfold PlanD.names tkR
    rw [hss, List.map_map]
    rfl
  have etk : (planOf d srs).tk = tkR ss := by unfold PlanD.tk tkR; rw [hss]
  have egv : (planOf d srs).gv = gvR ss := by unfold PlanD.gv gvR; rw [hss]
  rw [← ed] at ok
  have ok : OkF fr (cI x C dx [("places", iz zK (planOf d srs).places), ("begin", iz (zT zI) (planOf d srs).begin), ("taken", zAt td), ("given", zAt tg), ("steps", iz (zT zS) (planOf d srs).names)] :: cD td (zN zS) (planOf d srs).tk :: cD tg (zN zS) (planOf d srs).gv :: [cL a2 zI (d.map (·.2)), cL a1 zS (d.map (·.1))]) F' H' := by
    rw [etk, egv]
    exact ok
  obtain ⟨F2, ok2, hp2⟩ := plan_frz ok hok
  exact hQ _ ⟨hall, rfl⟩ σ F2 H' ⟨_, ok2⟩ hp2
end
section
variable {P : Program} {w : World} {K : PySem.W.Frag} {mg : Str → Option Value} {base : Heap}
theorem fs_due {F : Hp} {cs : EK → Addr} {y : PErr} {us : List (Str × V)} (hb : ∀ z, strE y = some z → z.length ≤ 1000) (hk : ∀ k l, y = .tooMany k l → k.length ≤ 1000) (h : FsOk F (erOf (ecs cs) y).fs us) : FsOk F (erW cs (heOf y)).fs us ∧ (erOf (ecs cs) y).C = (erW cs (heOf y)).C := by
  have up : ∀ {z : Str} {v : V}, z.length ≤ 1000 → (iz zS z).p F v → (iz yS z).p F v := fun hz h => ⟨h, Nat.le_trans hz (by decide)⟩
  cases y with
  | tooMany k l =>
    refine ⟨?_, rfl⟩
    cases h with
    | cons h1 h => cases h with
      | cons h2 h => exact .cons h1 (.cons ⟨h2.1, up (hk k l rfl) h2.2⟩ h)
  | badWord z =>
    refine ⟨?_, rfl⟩
    cases h with
    | cons h1 h => exact .cons ⟨h1.1, up (hb z rfl) h1.2⟩ h
  | double z =>
    refine ⟨?_, rfl⟩
    cases h with
    | cons h1 h => exact .cons ⟨h1.1, up (hb z rfl) h1.2⟩ h
  | badNumber n => exact ⟨h, rfl⟩
  | empty z =>
    refine ⟨?_, rfl⟩
    cases h with
    | cons h1 h => exact .cons ⟨h1.1, up (hb z rfl) h1.2⟩ h
  | unknown z =>
    refine ⟨?_, rfl⟩
    cases h with
    | cons h1 h => exact .cons ⟨h1.1, up (hb z rfl) h1.2⟩ h
theorem due_kind {prs : List (Str × Int)} {srs : List SRow} {k : Str} {l : Int} (h : planDue prs srs = some (.tooMany k l)) : k.length ≤ 1000 := by
  have hp : ∀ (seen : List Str) (prs : List (Str × Int)), placesDue seen prs ≠ some (.tooMany k l) := by
    intro seen prs
    induction prs generalizing seen with
    | nil => intro h; cases h
    | cons r prs ih =>
      obtain ⟨w, n⟩ := r
      rw [placesDue_cons]
      split
      · split
        · intro h; cases h
        · split
          · exact ih _
          · intro h; cases h
      · intro h; cases h
  have hn : ∀ x, nameErr x ≠ .tooMany k l := by
    intro x
    obtain ⟨b, n⟩ := x
    cases b <;> intro h <;> cases h
  have hs : ∀ (ps seen : List Str) (srs : List SRow), stepsDue ps seen srs ≠ some (.tooMany k l) := by
    intro ps seen srs
    induction srs generalizing seen with
    | nil => intro h; cases h
    | cons s srs ih =>
      rw [stepsDue_cons]
      split
      · rename_i e he
        intro h
        cases h
        unfold stepDue at he
        split at he
        · split at he
          · cases he
          · split at he
            · cases he
            · split at he
              · rename_i x hx
                exact hn x (Option.some.inj he)
              · obtain ⟨x, _, e2⟩ := Option.map_eq_some_iff.mp he
                exact hn x e2
        · cases he
      · exact ih _
  unfold planDue at h
  split at h
  · cases h; decide
  · split at h
    · cases h; decide
    · split at h
      · rename_i e he
        cases h
        exact absurd he (hp _ _)
      · exact absurd h (hs _ _ _)
theorem planW {cs : EK → Addr} {C : Addr} {k : Nat} {ps : List Str} (D : DefI P w K mg base (L2.CX P w) k C ps (spI C (preInit (ecs cs) C))) : DefI P w K mg base (L2.CX P w) k C ps (spI C (preW (erW cs) (fun x : List (Str × Int) × List SRow => [iz yPR x.1, iz ySR x.2]) (zPlan C) (fun x => mk_Plan x.1 x.2))) := D.imp fun vs H Q E ⟨x, dx, vs', F, qs, out, err, h1, h2, h3, h4, h5, ⟨⟨prs, srs⟩, Qm, Xm, e1, ⟨hb, hq, hx⟩, e2, e3⟩, ho, he⟩ => by
  subst e1 e2 e3
  have ok1 : PRowsOk prs := hb.1
  have ok2 : SRowsOk srs := fun r hr => ⟨(hb.2 r hr).1, (hb.2 r hr).2.1, (hb.2 r hr).2.2.1⟩
  refine ⟨x, dx, vs', F, [iz zPR prs, iz zSR srs], _, _, h1, h2, h3, h4, ?_, ⟨prs, srs, rfl, ok1, ok2, rfl, rfl⟩, fun p ⟨hd, e⟩ => ho p ⟨_, hq hd, e⟩, fun e ⟨y, hy, e2⟩ F' H' d us a1 a2 a3 a4 a5 a6 => ?_⟩
  · cases h5 with
    | cons b1 h5 => cases h5 with
      | cons b2 h5 => cases h5 with
        | nil => exact .cons (le_PR _ _ b1) (.cons (le_SR _ _ b2) .nil)
  · subst e2
    obtain ⟨c1, c2⟩ := fs_due (cs := cs) (fun z hz => due_str hb hy hz) (fun k l e => by subst e; exact due_kind hy) a6
    rw [c2]
    exact he (erW cs (heOf y)) ⟨_, hx y hy, rfl⟩ F' H' d us a1 a2 a3 a4 a5 c1
end
section
variable {P : Program} {w : World} {K : PySem.W.Frag} {mg : Str → Option Value} {base : Heap}
def m_is_word (z : Str) : DM Bool := fun Q _ => z.length ≤ 1000 ∧ Q (wd z.cps.toList)
theorem is_wordW {cs : EK → Addr} {k : Nat} {ps : List Str} (D : Def P w K mg base CX0 k "is_word" ps (spA preIsWord)) : Def P w K mg base CX0 k "is_word" ps (spA (preW (erW cs) (fun z : Str => [iz yS z]) zB m_is_word)) := D.imp fun vs H Q E ⟨F, qs, out, err, fh, hps, ⟨z, Q1, X, e1, ⟨hl, hq⟩, e2, e3⟩, post, pers⟩ => by
  subst e1 e2 e3
  refine ⟨F, [iz zS z], _, _, fh, ?_, ⟨z, rfl, hl, rfl, rfl⟩, fun p hp v F' H' hh ff fh' nw hv => ?_, fun e he => he.elim⟩
  · cases hps with
    | cons h1 hp => cases hp with
      | nil => exact .cons h1.1 .nil
  · subst hp
    exact post (iz zB _) ⟨_, hq, rfl⟩ v F' H' hh ff fh' nw hv
end
section
variable {P : Program} {w : World} {K : PySem.W.Frag} {mg : Str → Option Value} {base : Heap}
abbrev s_read_number : Stmt := topS 27
theorem sc_read_number : FnScope ["text", "sign"] ["text"] (defScope s_read_number) := ⟨rfl, rfl, rfl, by decide +kernel, rfl, by decide +kernel, by decide +kernel⟩
def m_read_number (p_text : Str) : DM (Option Int) := fun Q X =>
  ifD (!(decide ((1 : Int) ≤ ((p_text).length : Int)) && decide (((p_text).length : Int) ≤ (6 : Int)))) (
  Q (none : (Option Int))) (
  forD (sgnL p_text) () (fun x3 s2 nx bk =>
  x3.length = 1 ∧
  ifD (!decide (x3 ∈ sgnL DIGITS)) (
  Q (none : (Option Int))) (
  nx ())) (fun s2 =>
  ∃ v7, atI (p_text).cps.toList (0 : Int) = some v7 ∧
  ifD ((decide ((⟨#[v7]⟩ : Str) = ("0" : Str))) && (decide (((p_text).length : Int) > (1 : Int)))) (
  Q (none : (Option Int))) (
  ∃ v8, PySem.intText? p_text = some v8 ∧ p_text.length ≤ 640 ∧
  Q (some v8))))
theorem ok_read_number {k : Nat} {cs : EK → Addr} (B : Bl mg) (g_LONGEST : Glo mg "LONGEST" (.int (6 : Int))) (g_DIGITS_texts : Glo mg "DIGITS_texts" (.str DIGITS))
    (F : Src K mg "read_number" s_read_number ["text"]) : Def P w K mg base CX0 (k + 1) "read_number" ["text"] (spA (preW (erW cs) (fun x : Str => [iz yS x]) (yO zI) (fun x => m_read_number x))) := by
  refine F.okW sc_read_number (fun _ => rfl) (fun f cdv A outer s H E p_text Q X hr h => ⟨_, (pss_cons (ps_if (pt_not (pt_chain op_le op_le pe_int (pe_callB call_len_str (by rfl) B.len PySem.boot_len (pa_cons (pv 0) pa_nil)) (pe_glo g_LONGEST))) (pss_one (ps_ret pe_non)) pss_nil)
 (pss_cons (ps_for PassesOwn.never rfl (pi_str (pv 0)) (pg_name (i := 1) sc_read_number.nd rfl (Or.inl rfl)) (pss_one (ps_if (pt_cmpR op_notIn_sign (pv 1) (pe_glo g_DIGITS_texts) rfl) (pss_one (ps_ret pe_non)) pss_nil)))
 (pss_cons (ps_if (PW.pt (pw_and (pt_cmpR op_eq (pe_ix ix_str (pv 0) pe_int (fun _ _ => rfl)) pe_str (nomark _)) (pw_and1 (pt_cmpR op_gt (pe_callB call_len_str (by rfl) B.len PySem.boot_len (pa_cons (pv 0) pa_nil)) pe_int (nomark _))))) (pss_one (ps_ret pe_non)) pss_nil)
 (pss_one (ps_ret (pe_callTy call_int_str (by rfl) B.int' (by decide +kernel) (pa_cons (pv 0) pa_nil))))))), fun fr Qv hret => ?_⟩)
  replace h : m_read_number p_text Q X := h
  unfold m_read_number at h
  refine kn_seq (kn_if (wt_not (wt_test (we_chainI (we_cI (we_cb (wa_cons (we_var rfl (wa_nil (cy_lenS (fun e1 => (⟨_, _, _, rfl, rfl, we_cI (⟨rfl, rfl⟩), ⟨_, rfl, ⟨fun hc => ?_, fun hc => ?_⟩⟩⟩))))))))))))
  · have h := h.1 hc
    refine kn_ret (We.conv (we_cNy (⟨_, (le_On (r := zI)), ?_⟩)))
    exact hret _ h _
  · have h := h.2 hc
    refine kn_next ?_
    try dsimp only
    refine kn_seq (kn_forW (r := yS) (S := Unit) (fun s2 => [some (iz yS p_text), none]) (fun s2 => []) () (wi_str (we_var rfl (⟨_, rfl, fun e4 => ⟨_, _, _, _, _, rfl, rfl, (by and_intros), fun _ _ => tg_name, h, fun fr' le x3 s2 nx M hnx hbk h => ?_, fun s2 h => ?_⟩⟩))))
    · have hret := hret.fine le
      refine kn_if (wt_test (we_op (we_var rfl (we_cSy (asc_of (by decide)) (by decide) ?_))))
      obtain ⟨g5, h⟩ := h
      refine oy_ninG g5 (⟨_, rfl, ⟨fun hc => ?_, fun hc => ?_⟩⟩)
      · have h := h.1 hc
        refine kn_ret (We.conv (we_cNy (⟨_, (le_On (r := zI)), ?_⟩)))
        exact hret _ h _
      · have h := h.2 hc
        refine kn_next ?_
        exact hnx () _ _ h (by and_intros) rfl
    try dsimp only
    refine kn_seq (kn_if (wt_andP (wt_test (we_op (we_op (we_var rfl (we_cI ?_)))))))
    obtain ⟨v7, ev7, h⟩ := h
    refine oy_ixS ev7 (we_cSy (z := "0") (asc_of (by decide)) (by decide) (oy_eqS (⟨_, rfl, ⟨_, fun _ => wt_test (we_op (we_cb (wa_cons (we_var rfl (wa_nil (cy_lenS (fun e6 => (we_cI (ops_B0 (⟨_, rfl, ⟨rfl, rfl⟩⟩)))))))))), ⟨fun hc => ?_, fun hc => ?_⟩⟩⟩)))
    · have h := h.1 hc
      refine kn_ret (We.conv (we_cNy (⟨_, (le_On (r := zI)), ?_⟩)))
      exact hret _ h _
    · have h := h.2 hc
      refine kn_next ?_
      try dsimp only
      refine kn_ret (We.conv (we_cb (wa_cons (we_var rfl (wa_nil ?_)))))
      obtain ⟨v8, ev8, lv8, h⟩ := h
      refine cy_intS ev8 lv8 (⟨_, le_Os, ?_⟩)
      exact hret _ h _
abbrev s_read_place : Stmt := topS 28
theorem sc_read_place : FnScope ["line", "head", "word", "digits", "number"] ["line"] (defScope s_read_place) := ⟨rfl, rfl, rfl, by decide +kernel, rfl, by decide +kernel, by decide +kernel⟩
def m_read_place (p_line : Str) : DM (Option (Str × Int)) := fun Q X =>
  (((" " : Str).length == 0) = false ∧ p_line.length < big ∧ (Txt.split p_line (" " : Str)).length ≤ big ∧ ∀ z ∈ (Txt.split p_line (" " : Str)), z.length ≤ big) ∧
  (∀ head2 word3 digits4, ((Txt.split p_line (" " : Str))) = [head2, word3, digits4] →
  ifD (decide (head2 = ("place" : Str))) (
  m_read_number digits4 (fun v5 =>
  andD ((v5).isSome) (fun k7 => m_is_word word3 (fun v8 =>
  k7 v8) noX) (fun c6 =>
  ifD c6 (
  ∃ zv9, v5 = some zv9 ∧
  Q (some (word3, zv9))) (
  Q (none : (Option (Str × Int)))))) noX) (
  Q (none : (Option (Str × Int))))) ∧
  (((Txt.split p_line (" " : Str))).length ≠ 3 → Q (none : (Option (Str × Int))))
theorem ok_read_place {k : Nat} {cs : EK → Addr} (B : Bl mg) (D_read_number : Def P w K mg base CX0 k "read_number" ["text"] (spA (preW (erW cs) (fun x : Str => [iz yS x]) (yO zI) (fun x => m_read_number x)))) (D_is_word : Def P w K mg base CX0 k "is_word" ["word"] (spA (preW (erW cs) (fun z : Str => [iz yS z]) zB m_is_word)))
    (F : Src K mg "read_place" s_read_place ["line"]) : Def P w K mg base CX0 (k + 1) "read_place" ["line"] (spA (preW (erW cs) (fun x : Str => [iz yS x]) (yO (z2 yS zI)) (fun x => m_read_place x))) := by
  refine F.okW sc_read_place (fun _ => rfl) (fun f cdv A outer s H E p_line Q X hr h => ⟨_, (pss_cons (ps_mat3 (i := 1) (j := 2) (k := 3) rfl sc_read_place.nd rfl rfl rfl rfl rfl rfl (pe_bm PySem.F.plainAttrs_str PySem.F.slot_str_split PySem.F.type_str_split mt_split (pv 0) (pa_cons pe_str pa_nil)) (pt_cmpR op_eq (pv 1) pe_str (nomark _)) (pss_cons (ps_asg (pe_def D_read_number hr pass0 (pa_cons (pv 3) pa_nil)) (pg_name (i := 4) sc_read_place.nd rfl (Or.inl rfl)))
 (pss_one (ps_if (PW.pt (pw_and (pt_cmpR op_notN (pv 4) pe_non (nomark _)) (pw_and1 (pt_val (pe_def D_is_word hr pass0 (pa_cons (pv 2) pa_nil)))))) (pss_one (ps_ret (pe_tup (pa_cons (pv 2) (pa_cons (pv 4) pa_nil))))) pss_nil))))
 (pss_one (ps_ret pe_non))), fun fr Qv hret => ?_⟩)
  replace h : m_read_place p_line Q X := h
  unfold m_read_place at h
  refine kn_seq (kn_mat3 (i := 1) (j := 2) (k := 3) (we_bm (we_var rfl (⟨tyl_yS, wa_cons (we_cSy (z := " ") (asc_of (by decide)) (by decide) (wa_nil ?_))⟩))))
  obtain ⟨g1, h⟩ := h
  refine my_split g1 (⟨_, rfl, fun head2 word3 digits4 em => ?_, fun em => ?_⟩)
  · have h := h.1 head2 word3 digits4 em
    clear em
    refine wt_test (we_op (we_var rfl (we_cSy (z := "place") (asc_of (by decide)) (by decide) (oy_eqS (⟨_, rfl, ⟨fun hc => ?_, fun hc => ?_⟩⟩)))))
    · have h := h.1 hc
      refine kn_seq (kn_asg (i := 4) (we_callE (wa_cons (we_var rfl (wa_nil ?_)))))
      refine sps_W0 digits4 h (fun v5 h => ?_)
      refine kn_nrm (Γ' := [some (iz yS p_line), some (iz yS head2), some (iz yS word3), some (iz yS digits4), some (iz (yO zI) v5)]) rfl ?_
      try dsimp only
      refine kn_if (wt_andC (wt_test (we_op (we_var rfl (we_cNy (oy_notO (⟨_, rfl, ?_⟩)))))))
      refine andK h (fun h => ?_) (fun c6 h => ?_)
      · refine wt_b (we_callE (wa_cons (we_var rfl (wa_nil ?_))))
        refine sps_W0 word3 h (fun v8 h => ?_)
        refine ⟨_, rfl, ?_⟩
        exact ⟨rfl, h⟩
      refine ⟨fun hc => ?_, fun hc => ?_⟩
      · have h := h.1 hc
        refine kn_ret (We.conv (we_tup (wa_cons (we_var rfl (wa_cons (We.conv (we_var rfl ?_)))))))
        obtain ⟨zv9, ezv9, h⟩ := h
        refine ⟨_, le_Oz ezv9, wa_nil (⟨Nat.le_of_ble_eq_true rfl, iz (z2 yS zI) (word3, zv9), tr2, ⟨_, le_Os, ?_⟩⟩)⟩
        exact hret _ h _
      · have h := h.2 hc
        refine kn_next ?_
        try dsimp only
        refine kn_ret (We.conv (we_cNy (⟨_, (le_On (r := (z2 yS zI))), ?_⟩)))
        exact hret _ h _
    · have h := h.2 hc
      try dsimp only
      refine kn_ret (We.conv (we_cNy (⟨_, (le_On (r := (z2 yS zI))), ?_⟩)))
      exact hret _ h _
  · have h := h.2 em
    clear em
    try dsimp only
    refine kn_ret (We.conv (we_cNy (⟨_, (le_On (r := (z2 yS zI))), ?_⟩)))
    exact hret _ h _
abbrev s_read_step : Stmt := topS 29
theorem sc_read_step : FnScope ["line", "head", "name", "rest", "at", "takes", "gives", "words", "word"] ["line"] (defScope s_read_step) := ⟨rfl, rfl, rfl, by decide +kernel, rfl, by decide +kernel, by decide +kernel⟩
def m_read_step (p_line : Str) : DM (Option (Str × (List Str) × (List Str))) := fun Q X =>
  (((" " : Str).length == 0) = false ∧ p_line.length < big ∧ (Txt.split p_line (" " : Str)).length ≤ big ∧ ∀ z ∈ (Txt.split p_line (" " : Str)), z.length ≤ big) ∧
  (∀ head2 name3 rest4, ((Txt.split p_line (" " : Str))) = head2 :: name3 :: rest4 →
  ifD ((decide (head2 = ("step" : Str))) && ((Txt.endswith name3 (":" : Str)) && (decide (("->" : Str) ∈ rest4)))) (
  ("->" : Str) ∈ rest4 ∧
  ∀ at6, at6 = ((rest4).idxOf ("->" : Str) : Int) →
  (((cutS name3 none (some (-(1 : Int)))) :: ((cutX rest4 none (some at6)) ++ ((cutX rest4 (some (at6 + (1 : Int))) none) ++ [])))).length ≤ 1000 ∧
  ∀ words8, words8 = ((cutS name3 none (some (-(1 : Int)))) :: ((cutX rest4 none (some at6)) ++ ((cutX rest4 (some (at6 + (1 : Int))) none) ++ []))) →
  andD (!((cutX rest4 none (some at6))).isEmpty) (fun k10 => mapD words8 [] (fun x11 k12 =>
  m_is_word x11 (fun v16 =>
  k12 v16) noX) (fun ys13 =>
  k10 ((ys13).all id))) (fun c9 =>
  ifD c9 (
  Q (some ((cutS name3 none (some (-(1 : Int)))), (cutX rest4 none (some at6)), (cutX rest4 (some (at6 + (1 : Int))) none)))) (
  Q (none : (Option (Str × (List Str) × (List Str))))))) (
  Q (none : (Option (Str × (List Str) × (List Str)))))) ∧
  (((Txt.split p_line (" " : Str))).length < 2 → Q (none : (Option (Str × (List Str) × (List Str)))))
theorem ok_read_step {k : Nat} {cs : EK → Addr} (B : Bl mg) (D_is_word : Def P w K mg base CX0 k "is_word" ["word"] (spA (preW (erW cs) (fun z : Str => [iz yS z]) zB m_is_word)))
    (F : Src K mg "read_step" s_read_step ["line"]) : Def P w K mg base CX0 (k + 1) "read_step" ["line"] (spA (preW (erW cs) (fun x : Str => [iz yS x]) (yO (z3 yS (yL yS) (yL yS))) (fun x => m_read_step x))) := by
  refine F.okW sc_read_step (fun _ => rfl) (fun f cdv A outer s H E p_line Q X hr h => ⟨_, (pss_cons (ps_mat2s (i := 1) (j := 2) (k := 3) rfl sc_read_step.nd rfl rfl rfl rfl rfl rfl (pe_bm PySem.F.plainAttrs_str PySem.F.slot_str_split PySem.F.type_str_split mt_split (pv 0) (pa_cons pe_str pa_nil)) (PW.pt (pw_and (pt_cmpR op_eq (pv 1) pe_str (nomark _)) (pw_and (pt_val (pe_bm PySem.F.plainAttrs_str PySem.F.slot_str_endswith PySem.F.type_str_endswith mt_endswith (pv 2) (pa_cons pe_str pa_nil))) (pw_and1 (pt_cmpR (kop_in (K := K)) pe_str (pv 3) rfl))))) (pss_cons (ps_asg (kpe_bm (K := K) PySem.F.plainAttrs_list PySem.F.slot_list_index PySem.F.type_list_index (kmt_index (K := K)) (pv 3) (pa_cons pe_str pa_nil)) (pg_name (i := 4) sc_read_step.nd rfl (Or.inl rfl)))
 (pss_cons (ps_par (i := 5) (j := 6) (by rfl) sc_read_step.nd rfl rfl (by decide) rfl rfl (pa_cons (pe_slice (ksl_list (K := K)) (pv 3) po_none (po_some (pv 4))) (pa_cons (pe_slice (ksl_list (K := K)) (pv 3) (po_some (pe_op op_add (pv 4) pe_int)) po_none) pa_nil)) (by rfl))
 (pss_cons (ps_asg (pe_lst (pa_cons (pe_slice sl_str (pv 2) po_none (po_some (pe_un un_neg pe_int))) (kpa_star (K := K) (pv 5) (kpa_star (K := K) (pv 6) pa_nil)))) (pg_name (i := 7) sc_read_step.nd rfl (Or.inl rfl)))
 (pss_one (ps_if (PW.pt (pw_and (kpt_truth (Kf := K) (pv 5) (by intro _; rfl)) (pw_and1 (pt_val (pe_callB (kcr_all (K := K) rfl) (by rfl) B.all' (by decide +kernel) (pa_cons (pe_lc (own := [("word", 8)]) (g := gName 8) (by rfl) sc_read_step.nd (kpi_list (K := K) (pv 7)) (blkOk_by (N := ["line", "head", "name", "rest", "at", "takes", "gives", "words", "word"]) (sc := defScope s_read_step) (by decide +kernel)) (fun _ _ _ _ _ => (pg_name (i := 8) sc_read_step.nd rfl (Or.inl rfl))) (fun _ _ _ _ _ => pts_nil) (fun _ _ _ _ _ => (pe_def D_is_word hr pass0 (pa_cons (pv 8) pa_nil)))) pa_nil)))))) (pss_one (ps_ret (pe_tup (pa_cons (pe_slice sl_str (pv 2) po_none (po_some (pe_un un_neg pe_int))) (pa_cons (pv 5) (pa_cons (pv 6) pa_nil)))))) pss_nil))))))
 (pss_one (ps_ret pe_non))), fun fr Qv hret => ?_⟩)
  replace h : m_read_step p_line Q X := h
  unfold m_read_step at h
  refine kn_seq (kn_mat2s (i := 1) (j := 2) (k := 3) (we_bm (we_var rfl (⟨tyl_yS, wa_cons (we_cSy (z := " ") (asc_of (by decide)) (by decide) (wa_nil ?_))⟩))))
  obtain ⟨g1, h⟩ := h
  refine my_split g1 (⟨_, rfl, fun head2 name3 rest4 em => ?_, fun em => ?_⟩)
  · have h := h.1 head2 name3 rest4 em
    clear em
    refine wt_andP (wt_test (we_op (we_var rfl (we_cSy (z := "step") (asc_of (by decide)) (by decide) (oy_eqS (⟨_, rfl, ⟨_, fun _ => wt_andP (wt_b (we_bm (we_var rfl (⟨tyl_yS, wa_cons (we_cSy (z := ":") (asc_of (by decide)) (by decide) (wa_nil (my_ends (⟨_, rfl, ⟨_, fun _ => wt_test (we_op (we_cSy (z := "->") (asc_of (by decide)) (by decide) (we_var rfl (oy_inS sy_L (⟨_, rfl, ⟨rfl, rfl⟩⟩))))), ⟨rfl, rfl⟩⟩⟩))))⟩)))), ⟨fun hc => ?_, fun hc => ?_⟩⟩⟩))))))
    · have h := h.1 hc
      refine kn_seq (kn_asgL (i := 4) (r := zI) (we_bm (we_var rfl (⟨tyl_yL, wa_cons (we_cSy (z := "->") (asc_of (by decide)) (by decide) (wa_nil ?_))⟩))))
      obtain ⟨g5, h⟩ := h
      refine my_index g5 (⟨_, rfl, fun at6 eat6 => ?_⟩)
      have h := h at6 eat6
      refine kn_nrm (Γ' := [some (iz yS p_line), some (iz yS head2), some (iz yS name3), some (iz (yL yS) rest4), some (iz zI at6), none, none, none, none]) rfl ?_
      try dsimp only
      refine kn_seq (kn_par (i := 5) (j := 6) (wa_cons (we_sl (we_var rfl (wo_none (wo_some (we_var rfl (⟨_, rfl, sy_slL (wa_cons (we_sl (we_var rfl (wo_some (we_op (we_var rfl (we_cI (ops_I0 (⟨_, rfl, wo_none (sy_slL (wa_nil (⟨_, _, rfl, ?_⟩)))⟩)))))))))⟩))))))))
      refine kn_nrm (Γ' := [some (iz yS p_line), some (iz yS head2), some (iz yS name3), some (iz (yL yS) rest4), some (iz zI at6), some (iz (yL yS) (cutX rest4 none (some at6))), some (iz (yL yS) (cutX rest4 (some (at6 + (1 : Int))) none)), none, none]) rfl ?_
      try dsimp only
      refine kn_seq (kn_asgL (i := 7) (r := (yL yS)) (we_lstY (r := yS) (wa_cons (we_sl (we_var rfl (wo_none (wo_some (we_un (we_cI (uns_I (⟨_, rfl, sy_slS (wa_star (we_var rfl (⟨_, _, _, rfl, wa_star (we_var rfl (⟨_, _, _, rfl, wa_nil ?_⟩))⟩)))⟩)))))))))))
      obtain ⟨g7, h⟩ := h
      refine ⟨((cutS name3 none (some (-(1 : Int)))) :: ((cutX rest4 none (some at6)) ++ ((cutX rest4 (some (at6 + (1 : Int))) none) ++ []))), by simp only [List.map_cons, List.map_append, List.map_nil], g7, ⟨_, rfl, fun words8 ewords8 => ?_⟩⟩
      have h := h words8 ewords8
      refine kn_nrm (Γ' := [some (iz yS p_line), some (iz yS head2), some (iz yS name3), some (iz (yL yS) rest4), some (iz zI at6), some (iz (yL yS) (cutX rest4 none (some at6))), some (iz (yL yS) (cutX rest4 (some (at6 + (1 : Int))) none)), some (iz (yL yS) words8), none]) rfl ?_
      try dsimp only
      refine kn_if (wt_andC (wt_tru (we_var rfl (⟨_, ty_L', ?_⟩))))
      refine andK h (fun h => ?_) (fun c9 h => ?_)
      · refine wt_b (we_cb (wa_cons (we_lcM (r := yS) (s := zB) (wi_yL (we_var rfl (⟨_, _, _, rfl, fun e14 => ⟨_, _, _, _, rfl, rfl, e14, fun _ => tg_name, h, fun x11 c k12 h => ?_, fun ys13 h eys13 => ?_⟩⟩))))))
        · refine we_callE (wa_cons (we_var rfl (wa_nil ?_)))
          refine sps_W0 x11 h (fun v16 h => ?_)
          exact ⟨rfl, _, rfl, h⟩
        refine wa_nil (cy_all (⟨_, rfl, ?_⟩))
        exact ⟨rfl, h⟩
      refine ⟨fun hc => ?_, fun hc => ?_⟩
      · have h := h.1 hc
        refine kn_ret (We.conv (we_tup (wa_cons (we_sl (we_var rfl (wo_none (wo_some (we_un (we_cI (uns_I (⟨_, rfl, sy_slS (wa_cons (we_var rfl (wa_cons (we_var rfl (wa_nil (⟨Nat.le_of_ble_eq_true rfl, iz (z3 yS (yL yS) (yL yS)) ((cutS name3 none (some (-(1 : Int)))), (cutX rest4 none (some at6)), (cutX rest4 (some (at6 + (1 : Int))) none)), tr3, ⟨_, le_Os, ?_⟩⟩))))))⟩)))))))))))
        exact hret _ h _
      · have h := h.2 hc
        refine kn_next ?_
        try dsimp only
        refine kn_ret (We.conv (we_cNy (⟨_, (le_On (r := (z3 yS (yL yS) (yL yS)))), ?_⟩)))
        exact hret _ h _
    · have h := h.2 hc
      try dsimp only
      refine kn_ret (We.conv (we_cNy (⟨_, (le_On (r := (z3 yS (yL yS) (yL yS)))), ?_⟩)))
      exact hret _ h _
  · have h := h.2 em
    clear em
    try dsimp only
    refine kn_ret (We.conv (we_cNy (⟨_, (le_On (r := (z3 yS (yL yS) (yL yS)))), ?_⟩)))
    exact hret _ h _
abbrev s_read_line : Stmt := topS 30
theorem sc_read_line : FnScope ["line", "place", "step"] ["line"] (defScope s_read_line) := ⟨rfl, rfl, rfl, by decide +kernel, rfl, by decide +kernel, by decide +kernel⟩
def m_read_line (p_line : Str) : DM (Option ((Str × Str × Int) ⊕ (Str × Str × (List Str) × (List Str)))) := fun Q X =>
  m_read_place p_line (fun v1 =>
  optD v1 (m_read_step p_line (fun v3 =>
  optD v3 (Q (none : (Option ((Str × Str × Int) ⊕ (Str × Str × (List Str) × (List Str)))))) (fun step4 =>
  Q (some ((.inr (("step" : Str), step4.1, step4.2.1, step4.2.2)) : ((Str × Str × Int) ⊕ (Str × Str × (List Str) × (List Str))))))) noX) (fun place2 =>
  Q (some ((.inl (("place" : Str), place2.1, place2.2)) : ((Str × Str × Int) ⊕ (Str × Str × (List Str) × (List Str))))))) noX
theorem ok_read_line {k : Nat} {cs : EK → Addr} (B : Bl mg) (D_read_place : Def P w K mg base CX0 k "read_place" ["line"] (spA (preW (erW cs) (fun x : Str => [iz yS x]) (yO (z2 yS zI)) (fun x => m_read_place x)))) (D_read_step : Def P w K mg base CX0 k "read_step" ["line"] (spA (preW (erW cs) (fun x : Str => [iz yS x]) (yO (z3 yS (yL yS) (yL yS))) (fun x => m_read_step x))))
    (F : Src K mg "read_line" s_read_line ["line"]) : Def P w K mg base CX0 (k + 1) "read_line" ["line"] (spA (preW (erW cs) (fun x : Str => [iz yS x]) (yO (yU (z3 yS yS zI) (z4 yS yS (yL yS) (yL yS)))) (fun x => m_read_line x))) := by
  refine F.okW sc_read_line (fun _ => rfl) (fun f cdv A outer s H E p_line Q X hr h => ⟨_, (pss_cons (ps_ifNm (i := 1) sc_read_line.nd rfl (Or.inl rfl) (pe_def D_read_place hr pass0 (pa_cons (pv 0) pa_nil)) (pss_one (ps_ret (pe_tup (pa_cons pe_str (kpa_star (K := K) (pv 1) pa_nil))))) pss_nil)
 (pss_cons (ps_ifNm (i := 2) sc_read_line.nd rfl (Or.inl rfl) (pe_def D_read_step hr pass0 (pa_cons (pv 0) pa_nil)) (pss_one (ps_ret (pe_tup (pa_cons pe_str (kpa_star (K := K) (pv 2) pa_nil))))) pss_nil)
 (pss_one (ps_ret pe_non)))), fun fr Qv hret => ?_⟩)
  replace h : m_read_line p_line Q X := h
  unfold m_read_line at h
  refine kn_seq (kn_seq (kn_asg (i := 1) (we_callE (wa_cons (we_var rfl (wa_nil ?_))))))
  refine sps_W0 p_line h (fun v1 h => ?_)
  try dsimp only
  refine kn_if (wt_notN (we_var rfl (⟨_, ⟨_, _, inferInstance, _, rfl, rfl⟩, optKn h (fun eplace2 h => ?_) (fun place2 eplace2 h => ?_)⟩)))
  · revert h; (first | subst eplace2 | (rw [eplace2]; (try rw [eplace2] at hjn))); intro h
    refine kn_next ?_
    try dsimp only
    refine kn_seq (kn_seq (kn_asg (i := 2) (we_callE (wa_cons (we_var rfl (wa_nil ?_))))))
    refine sps_W0 p_line h (fun v3 h => ?_)
    try dsimp only
    refine kn_if (wt_notN (we_var rfl (⟨_, ⟨_, _, inferInstance, _, rfl, rfl⟩, optKn h (fun estep4 h => ?_) (fun step4 estep4 h => ?_)⟩)))
    · revert h; (first | subst estep4 | (rw [estep4]; (try rw [estep4] at hjn))); intro h
      refine kn_next ?_
      try dsimp only
      refine kn_ret (We.conv (we_cNy (⟨_, (le_On (r := (yU (z3 yS yS zI) (z4 yS yS (yL yS) (yL yS))))), ?_⟩)))
      exact hret _ h _
    · revert h; (first | subst estep4 | (rw [estep4]; (try rw [estep4] at hjn))); intro h
      refine kn_ret (We.conv (we_tup (wa_cons (we_cSy (z := "step") (asc_of (by decide)) (by decide) (wa_star3 (we_var rfl (⟨_, rfl, wa_nil (⟨Nat.le_of_ble_eq_true rfl, iz (z4 yS yS (yL yS) (yL yS)) (("step" : Str), step4.1, step4.2.1, step4.2.2), tr4, ⟨_, (show Vp.Le (iz (z4 yS yS (yL yS) (yL yS)) (("step" : Str), step4.1, step4.2.1, step4.2.2)) (iz (yO (yU (z3 yS yS zI) (z4 yS yS (yL yS) (yL yS)))) (some ((.inr (("step" : Str), step4.1, step4.2.1, step4.2.2)) : ((Str × Str × Int) ⊕ (Str × Str × (List Str) × (List Str)))))) from fun F v h => ((show Vp.Le (iz (z4 yS yS (yL yS) (yL yS)) (("step" : Str), step4.1, step4.2.1, step4.2.2)) (iz (yU (z3 yS yS zI) (z4 yS yS (yL yS) (yL yS))) ((.inr (("step" : Str), step4.1, step4.2.1, step4.2.2)) : ((Str × Str × Int) ⊕ (Str × Str × (List Str) × (List Str))))) from fun F v h => h) : Vp.Le (iz (z4 yS yS (yL yS) (yL yS)) _) (iz (yU (z3 yS yS zI) (z4 yS yS (yL yS) (yL yS))) _)) F v h), ?_⟩⟩)⟩)))))))
      exact hret _ h _
  · revert h; (first | subst eplace2 | (rw [eplace2]; (try rw [eplace2] at hjn))); intro h
    refine kn_ret (We.conv (we_tup (wa_cons (we_cSy (z := "place") (asc_of (by decide)) (by decide) (wa_star2 (we_var rfl (⟨_, rfl, wa_nil (⟨Nat.le_of_ble_eq_true rfl, iz (z3 yS yS zI) (("place" : Str), place2.1, place2.2), tr3, ⟨_, (show Vp.Le (iz (z3 yS yS zI) (("place" : Str), place2.1, place2.2)) (iz (yO (yU (z3 yS yS zI) (z4 yS yS (yL yS) (yL yS)))) (some ((.inl (("place" : Str), place2.1, place2.2)) : ((Str × Str × Int) ⊕ (Str × Str × (List Str) × (List Str)))))) from fun F v h => ((show Vp.Le (iz (z3 yS yS zI) (("place" : Str), place2.1, place2.2)) (iz (yU (z3 yS yS zI) (z4 yS yS (yL yS) (yL yS))) ((.inl (("place" : Str), place2.1, place2.2)) : ((Str × Str × Int) ⊕ (Str × Str × (List Str) × (List Str))))) from fun F v h => h) : Vp.Le (iz (z3 yS yS zI) _) (iz (yU (z3 yS yS zI) (z4 yS yS (yL yS) (yL yS))) _)) F v h), ?_⟩⟩)⟩)))))))
    exact hret _ h _
end
section
variable {P : Program} {w : World} {K : PySem.W.Frag} {mg : Str → Option Value} {base : Heap}
abbrev s_Plan_place_rows : Stmt := inClass (topS 23) 5
theorem sc_Plan_place_rows : FnScope ["self", "k"] ["self"] (defScope s_Plan_place_rows) := ⟨rfl, rfl, rfl, by decide +kernel, rfl, by decide +kernel, by decide +kernel⟩
def m_Plan_place_rows (p_self : PlanD) : DM (List (Str × Int)) := fun Q X =>
  mapD (intsF 0 (((p_self.places).length : Int)).toNat) [] (fun x1 k2 =>
  ∃ v6, atI p_self.places x1 = some v6 ∧
  ∃ v7, atI p_self.begin x1 = some v7 ∧
  k2 (v6, v7)) (fun ys3 =>
  Q ys3)
theorem ok_Plan_place_rows {k : Nat} {cs : EK → Addr} {C : Addr} (B : Bl mg) (T_Plan : PlanC K mg C)
    (F : SrcM K C "place_rows" "Plan.place_rows" s_Plan_place_rows ["self"]) : DefM P w K mg base CX0 (k + 1) C "place_rows" ["self"] (spA (preW (erW cs) (fun x : PlanD => [iz (zPlan C) x]) (yL (z2 yS zI)) (fun x => m_Plan_place_rows x))) := by
  refine F.okW sc_Plan_place_rows (fun _ => rfl) (fun f cdv A outer s H E p_self Q X hr h => ⟨_, (pss_one (ps_ret (pe_lc (own := [("k", 1)]) (g := gName 1) (by rfl) sc_Plan_place_rows.nd (pi_range1 (by rfl) B.range (pa_cons (pe_callB (kcall_len (K := K)) (by rfl) B.len PySem.boot_len (pa_cons (kpe_fld (K := K) (pv 0)) pa_nil)) pa_nil)) (blkOk_by (N := ["self", "k"]) (sc := defScope s_Plan_place_rows) (by decide +kernel)) (fun _ _ _ _ _ => (pg_name (i := 1) sc_Plan_place_rows.nd rfl (Or.inl rfl))) (fun _ _ _ _ _ => pts_nil) (fun _ _ _ _ _ => (pe_tup (pa_cons (pe_ix (kix_tup (K := K)) (kpe_fld (K := K) (pv 0)) (pv 1) (fun _ _ => rfl)) (pa_cons (pe_ix (kix_tup (K := K)) (kpe_fld (K := K) (pv 0)) (pv 1) (fun _ _ => rfl)) pa_nil))))))), fun fr Qv hret => ?_⟩)
  replace h : m_Plan_place_rows p_self Q X := h
  unfold m_Plan_place_rows at h
  refine kn_ret (we_lcM (r := zI) (s := (z2 yS zI)) (wi_range (wa_cons (we_cb (wa_cons (we_fld (we_var rfl (⟨_, fy_places T_Plan, wa_nil (cy_len sy_T (fun e4 => (wa_nil (⟨_, rfl, (by have hb : big = 100000 := rfl; omega), (by have hb : big = 100000 := rfl; omega), ⟨_, _, _, _, rfl, rfl, (intsF_big (by have hb : big = 100000 := rfl; omega)), fun _ => tg_name, h, fun x1 c k2 h => ?_, fun ys3 h eys3 => ?_⟩⟩))))⟩))))))))
  · refine we_tup (wa_cons (we_op (we_fld (we_var rfl (⟨_, fy_places T_Plan, we_var rfl ?_⟩)))))
    obtain ⟨v6, ev6, h⟩ := h
    refine oy_ixT ev6 (wa_cons (we_op (we_fld (we_var rfl (⟨_, fy_begin T_Plan, we_var rfl ?_⟩)))))
    obtain ⟨v7, ev7, h⟩ := h
    refine oy_ixT ev7 (wa_nil (⟨Nat.le_of_ble_eq_true rfl, iz (z2 yS zI) (v6, v7), tr2, ?_⟩))
    exact ⟨rfl, _, rfl, h⟩
  exact hret _ h _
abbrev s_Plan_step_rows : Stmt := inClass (topS 23) 6
theorem sc_Plan_step_rows : FnScope ["self", "step"] ["self"] (defScope s_Plan_step_rows) := ⟨rfl, rfl, rfl, by decide +kernel, rfl, by decide +kernel, by decide +kernel⟩
def m_Plan_step_rows (p_self : PlanD) : DM (List (Str × (List Str) × (List Str))) := fun Q X =>
  mapD p_self.names [] (fun x1 k2 =>
  ∃ v6, getR p_self.tk x1 = some v6 ∧
  ∃ v7, getR p_self.gv x1 = some v7 ∧
  k2 (x1, v6, v7)) (fun ys3 =>
  Q ys3)
theorem ok_Plan_step_rows {k : Nat} {cs : EK → Addr} {C : Addr} (B : Bl mg) (T_Plan : PlanC K mg C)
    (F : SrcM K C "step_rows" "Plan.step_rows" s_Plan_step_rows ["self"]) : DefM P w K mg base CX0 (k + 1) C "step_rows" ["self"] (spA (preW (erW cs) (fun x : PlanD => [iz (zPlan C) x]) (yL (z3 yS (yL yS) (yL yS))) (fun x => m_Plan_step_rows x))) := by
  refine F.okW sc_Plan_step_rows (fun _ => rfl) (fun f cdv A outer s H E p_self Q X hr h => ⟨_, (pss_one (ps_ret (pe_lc (own := [("step", 1)]) (g := gName 1) (by rfl) sc_Plan_step_rows.nd (kpi_tup (K := K) (kpe_fld (K := K) (pv 0))) (blkOk_by (N := ["self", "step"]) (sc := defScope s_Plan_step_rows) (by decide +kernel)) (fun _ _ _ _ _ => (pg_name (i := 1) sc_Plan_step_rows.nd rfl (Or.inl rfl))) (fun _ _ _ _ _ => pts_nil) (fun _ _ _ _ _ => (pe_tup (pa_cons (pv 1) (pa_cons (pe_callTy (kcall_list (K := K)) (by rfl) B.list' (by decide +kernel) (pa_cons (pe_dget (hu_of hr) (kpe_fld (K := K) (pv 0)) (pv 1) (fun _ _ => rfl)) pa_nil)) (pa_cons (pe_callTy (kcall_list (K := K)) (by rfl) B.list' (by decide +kernel) (pa_cons (pe_dget (hu_of hr) (kpe_fld (K := K) (pv 0)) (pv 1) (fun _ _ => rfl)) pa_nil)) pa_nil)))))))), fun fr Qv hret => ?_⟩)
  replace h : m_Plan_step_rows p_self Q X := h
  unfold m_Plan_step_rows at h
  refine kn_ret (we_lcM (r := yS) (s := (z3 yS (yL yS) (yL yS))) (wi_yT (we_fld (we_var rfl (⟨_, fy_steps T_Plan, ⟨_, _, _, _, rfl, fun e4 => ⟨_, _, _, _, rfl, rfl, e4, fun _ => tg_name, h, fun x1 c k2 h => ?_, fun ys3 h eys3 => ?_⟩⟩⟩)))))
  · refine we_tup (wa_cons (we_var rfl (wa_cons (we_cb (wa_cons (wy_dget (we_fld (we_var rfl (⟨_, fy_taken T_Plan, we_var rfl ?_⟩)))))))))
    obtain ⟨v6, ev6, h⟩ := h
    refine ⟨_, _, _, _, _, dy_D, rfl, ev6, wa_nil (cy_list sy_T (wa_cons (we_cb (wa_cons (wy_dget (we_fld (we_var rfl (⟨_, fy_given T_Plan, we_var rfl ?_⟩))))))))⟩
    obtain ⟨v7, ev7, h⟩ := h
    refine ⟨_, _, _, _, _, dy_D, rfl, ev7, wa_nil (cy_list sy_T (wa_nil (⟨Nat.le_of_ble_eq_true rfl, iz (z3 yS (yL yS) (yL yS)) (x1, v6, v7), tr3, ?_⟩)))⟩
    exact ⟨rfl, _, rfl, h⟩
  exact hret _ h _
abbrev s_Plan___eq__ : Stmt := inClass (topS 23) 12
theorem sc_Plan___eq__ : FnScope ["self", "other"] ["self", "other"] (defScope s_Plan___eq__) := ⟨rfl, rfl, rfl, by decide +kernel, rfl, by decide +kernel, by decide +kernel⟩
def m_Plan___eq__ (p_self : PlanD) (p_other : PlanD) : DM Bool := fun Q X =>
  ifD (!true) (
  True) (
  ifD ((!decide (p_self.places = p_other.places)) || (!decide (p_self.begin = p_other.begin))) (
  Q false) (
  Q ((decide (p_self.names = p_other.names)) && ((dEq p_self.tk p_other.tk) && (dEq p_self.gv p_other.gv)))))
theorem ok_Plan___eq__ {k : Nat} {cs : EK → Addr} {C : Addr} (B : Bl mg) (T_Plan : PlanC K mg C) (O_Plan : IsO K C) (kt_Plan_Plan : PySem.W.kitOne K (.ref C) (.ref C) = some true)
    (F : SrcM K C "__eq__" "Plan.__eq__" s_Plan___eq__ ["self", "other"]) : DefM P w K mg base CX0 (k + 1) C "__eq__" ["self", "other"] (spA (preW (erW cs) (fun x : PlanD × PlanD => [iz (zPlan C) x.1, iz (zPlan C) x.2]) zB (fun x => m_Plan___eq__ x.1 x.2))) := by
  refine F.okW sc_Plan___eq__ (fun _ => rfl) (fun f cdv A outer s H E x Q X hr h => ⟨_, (pss_cons (ps_if (pt_not (pt_val (pe_callB (kcall_isi (K := K)) (by rfl) B.isinstance (by decide +kernel) (pa_cons (pv 1) (pa_cons (pe_glo (glo_plan T_Plan)) pa_nil))))) pss_false pss_nil)
 (pss_cons (ps_if (PW.pt (pw_or (pt_cmpR (kop_neD (K := K) hr.units) (kpe_fld (K := K) (pv 0)) (kpe_fld (K := K) (pv 1)) (nomark _)) (pw_or1 (pt_cmpR (kop_neD (K := K) hr.units) (kpe_fld (K := K) (pv 0)) (kpe_fld (K := K) (pv 1)) (nomark _))))) (pss_one (ps_ret pe_bl)) pss_nil)
 (pss_one (ps_ret (pe_and (pe_cmpR (kop_eqD (K := K) hr.units) (kpe_fld (K := K) (pv 0)) (kpe_fld (K := K) (pv 1)) (nomark _)) (pe_and (pe_cmpR (op_eqDD (K := K) (un200 hr)) (kpe_fld (K := K) (pv 0)) (kpe_fld (K := K) (pv 1)) (nomark _)) (pe_one (pe_cmpR (op_eqDD (K := K) (un200 hr)) (kpe_fld (K := K) (pv 0)) (kpe_fld (K := K) (pv 1)) (nomark _))))))))), fun fr Qv hret => ?_⟩)
  obtain ⟨p_self, p_other⟩ := x
  replace h : m_Plan___eq__ p_self p_other Q X := h
  unfold m_Plan___eq__ at h
  refine kn_seq (kn_if (wt_not (wt_b (we_cb (wa_cons (we_var rfl (wa_cons (we_cA (wa_nil (cb_isO O_Plan (InsP.c (ins_plan (m := "__contains__") rfl)) kt_Plan_Plan (⟨_, rfl, ⟨fun hc => ?_, fun hc => ?_⟩⟩)))))))))))
  · exact absurd hc (by decide)
  · have h := h.2 hc
    refine kn_next ?_
    try dsimp only
    refine kn_seq (kn_if (wt_orP (wt_test (we_op (we_fld (we_var rfl (⟨_, fy_places T_Plan, we_fld (we_var rfl (⟨_, fy_places T_Plan, ops_neD (r := (yT yS)) (by decide) (⟨_, rfl, ⟨_, fun _ => wt_test (we_op (we_fld (we_var rfl (⟨_, fy_begin T_Plan, we_fld (we_var rfl (⟨_, fy_begin T_Plan, ops_neD (r := (yT zI)) (by decide) (⟨_, rfl, ⟨rfl, rfl⟩⟩)⟩))⟩)))), ⟨fun hc => ?_, fun hc => ?_⟩⟩⟩)⟩))⟩)))))))
    · have h := h.1 hc
      refine kn_ret (we_cB ?_)
      exact hret _ h _
    · have h := h.2 hc
      refine kn_next ?_
      try dsimp only
      refine kn_ret (we_andP (we_op (we_fld (we_var rfl (⟨_, fy_steps T_Plan, we_fld (we_var rfl (⟨_, fy_steps T_Plan, ops_eqD (r := (yT yS)) (by decide) (⟨_, _, rfl, fun _ => we_andP (we_op (we_fld (we_var rfl (⟨_, fy_taken T_Plan, we_fld (we_var rfl (⟨_, fy_taken T_Plan, oy_eqDD (r := (yT yS)) (by decide) (⟨_, _, rfl, fun _ => we_op (we_fld (we_var rfl (⟨_, fy_given T_Plan, we_fld (we_var rfl (⟨_, fy_given T_Plan, oy_eqDD (r := (yT yS)) (by decide) (⟨rfl, rfl⟩)⟩))⟩))), ⟨rfl, rfl⟩⟩)⟩))⟩)))), ?_⟩)⟩))⟩)))))
      exact hret _ h _
end
section
theorem place_rows_ok {d : PlanD} {prs : List (Str × Int)} {Q : List (Str × Int) → Prop} {X : HE → Prop} (h1 : d.places = prs.map (·.1)) (h2 : d.begin = prs.map (·.2)) (h : Q prs) : m_Plan_place_rows d Q X := by
  unfold m_Plan_place_rows
  rw [Int.toNat_natCast, h1, h2]
  have hl : (prs.map (·.1)).length = prs.length := List.length_map _
  rw [hl]
  refine mapD_ok (fun k : Int => prs.getD k.toNat (("" : Str), 0)) (fun k hk c hc => ?_) ?_
  · obtain ⟨j, hj, rfl⟩ := mem_intsF hk
    have g : prs[j]? = some (prs.getD j (("" : Str), 0)) := by
      rw [List.getD_eq_getElem?_getD, List.getElem?_eq_getElem hj]; rfl
    refine ⟨(prs.getD j (("" : Str), 0)).1, atI_nat (by rw [List.getElem?_map, g]; rfl), (prs.getD j (("" : Str), 0)).2, atI_nat (by rw [List.getElem?_map, g]; rfl), ?_⟩
    rw [Int.toNat_natCast] at hc
    exact hc
  · rw [List.nil_append]
    have e : (intsF 0 prs.length).map (fun k : Int => prs.getD k.toNat (("" : Str), 0)) = prs := by
      refine List.ext_getElem (by rw [List.length_map, intsF_len]) fun j h1 h2 => ?_
      rw [List.getElem_map]
      have e0 : (intsF 0 prs.length)[j]'(by rw [intsF_len]; exact h2) = (j : Int) := by
        unfold intsF
        rw [List.getElem_map, List.getElem_range]
        omega
      rw [e0, Int.toNat_natCast, List.getD_eq_getElem?_getD, List.getElem?_eq_getElem h2]
      rfl
    rw [e]
    exact h
theorem step_rows_ok {d : PlanD} (pk : PlanOk d) {Q : List SRow → Prop} {X : HE → Prop} (h : Q d.steps) : m_Plan_step_rows d Q X := by
  unfold m_Plan_step_rows
  show mapD (d.steps.map (·.1)) [] _ _
  rw [mapD_map]
  refine mapD_ok (fun r => r) (fun r hr k hk => ⟨_, pk.tkr hr, _, pk.gvr hr, hk⟩) ?_
  rw [List.nil_append, List.map_id']
  exact h
theorem dEq_self {α : Type} [DecidableEq α] {xs : List (Str × α)} (hn : (xs.map (·.1)).Nodup) : dEq xs xs = true := by
  unfold dEq
  rw [decide_eq_true rfl, Bool.true_and, List.all_eq_true]
  intro p hp
  exact decide_eq_true (getR_nodup hn hp)
theorem eq_self {d : PlanD} (pk : PlanOk d) {Q : Bool → Prop} {X : HE → Prop} (h : Q true) : m_Plan___eq__ d d Q X := by
  unfold m_Plan___eq__
  refine ifD_f rfl (ifD_f (by rw [decide_eq_true rfl, decide_eq_true rfl]; rfl) ?_)
  rw [decide_eq_true rfl, dEq_self (by rw [PlanOk.tkn]; exact pk.sn), dEq_self (by rw [PlanOk.gvn]; exact pk.sn)]
  exact h
theorem inOrd_congr' {ps a t : List Str} (h : ∀ y, (y ∈ a ↔ y ∈ t)) : inOrd ps a = inOrd ps t := by
  unfold inOrd
  exact List.filter_congr fun y _ => by
    by_cases q : y ∈ a
    · rw [decide_eq_true q, decide_eq_true ((h y).mp q)]
    · rw [decide_eq_false q, decide_eq_false fun z => q ((h y).mpr z)]
end
def spLaw (K : PySem.W.Frag) : Sp := fun vs H Q _ => ∃ (a : Addr) (ns : List Int), vs = [.ref a] ∧ SqL K H a (ns.map V.int) ∧ ns.length ≤ 63 ∧ ∀ H', Q (.bl true) H'
section
variable {P : Program} {w : World} {K : PySem.W.Frag} {mg : Str → Option Value} {base : Heap}
abbrev s_place_line : Stmt := topS 31
theorem sc_place_line : FnScope ["word", "number"] ["word", "number"] (defScope s_place_line) := ⟨rfl, rfl, rfl, by decide +kernel, rfl, by decide +kernel, by decide +kernel⟩
def m_place_line (p_word : Str) (p_number : Int) : DM Str := fun Q X =>
  (Str.empty).length + (("place " : Str)).length ≤ big ∧
  ((Str.empty ++ ("place " : Str))).length + (p_word).length ≤ big ∧
  (((Str.empty ++ ("place " : Str)) ++ p_word)).length + ((" " : Str)).length ≤ big ∧
  CStr p_number ∧
  ((((Str.empty ++ ("place " : Str)) ++ p_word) ++ (" " : Str))).length + ((numS p_number)).length ≤ big ∧
  (((((Str.empty ++ ("place " : Str)) ++ p_word) ++ (" " : Str)) ++ (numS p_number))).length ≤ big ∧
  Q ((((Str.empty ++ ("place " : Str)) ++ p_word) ++ (" " : Str)) ++ (numS p_number))
theorem ok_place_line {k : Nat} {cs : EK → Addr} (B : Bl mg) 
    (F : Src K mg "place_line" s_place_line ["word", "number"]) : Def P w K mg base CX0 (k + 1) "place_line" ["word", "number"] (spA (preW (erW cs) (fun x : Str × Int => [iz yS x.1, iz zI x.2]) yS (fun x => m_place_line x.1 x.2))) := by
  refine F.okW sc_place_line (fun _ => rfl) (fun f cdv A outer s H E x Q X hr h => ⟨_, (pss_one (ps_ret (pe_joined (.cons pe_str (.cons (pe_fmt (pv 0)) (.cons pe_str (.cons (pe_fmt (pv 1)) .nil))))))), fun fr Qv hret => ?_⟩)
  obtain ⟨p_word, p_number⟩ := x
  replace h : m_place_line p_word p_number Q X := h
  unfold m_place_line at h
  refine kn_ret (we_fs (wj_cons (we_cSy (z := "place ") (asc_of (by decide)) (by decide) ?_)))
  obtain ⟨g1, h⟩ := h
  refine ⟨_, rfl, g1, wj_cons (we_fmtS (we_var rfl (⟨_, rfl, ?_⟩)))⟩
  obtain ⟨g2, h⟩ := h
  refine ⟨_, rfl, g2, wj_cons (we_cSy (z := " ") (asc_of (by decide)) (by decide) ?_)⟩
  obtain ⟨g3, h⟩ := h
  refine ⟨_, rfl, g3, wj_cons (we_fmtI (we_var rfl ?_))⟩
  obtain ⟨g4, h⟩ := h
  refine ⟨_, rfl, g4, ?_⟩
  obtain ⟨g5, h⟩ := h
  refine ⟨_, rfl, g5, ?_⟩
  obtain ⟨g6, h⟩ := h
  refine wj_nil (⟨g6, ?_⟩)
  exact hret _ h _
abbrev s_step_line : Stmt := topS 32
theorem sc_step_line : FnScope ["step", "takes", "gives"] ["step", "takes", "gives"] (defScope s_step_line) := ⟨rfl, rfl, rfl, by decide +kernel, rfl, by decide +kernel, by decide +kernel⟩
def m_step_line (p_step : Str) (p_takes : (List Str)) (p_gives : (List Str)) : DM Str := fun Q X =>
  (p_step).length + ((":" : Str)).length ≤ big ∧
  ((("step" : Str) :: ((p_step ++ (":" : Str)) :: (p_takes ++ (("->" : Str) :: (p_gives ++ [])))))).length ≤ 1000 ∧
  (((("step" : Str) :: ((p_step ++ (":" : Str)) :: (p_takes ++ (("->" : Str) :: (p_gives ++ [])))))).map (·.length)).sum + ((("step" : Str) :: ((p_step ++ (":" : Str)) :: (p_takes ++ (("->" : Str) :: (p_gives ++ [])))))).length * ((" " : Str)).length ≤ big ∧
  Q (Txt.join (" " : Str) (("step" : Str) :: ((p_step ++ (":" : Str)) :: (p_takes ++ (("->" : Str) :: (p_gives ++ []))))))
theorem ok_step_line {k : Nat} {cs : EK → Addr} (B : Bl mg) 
    (F : Src K mg "step_line" s_step_line ["step", "takes", "gives"]) : Def P w K mg base CX0 (k + 1) "step_line" ["step", "takes", "gives"] (spA (preW (erW cs) (fun x : Str × (List Str) × (List Str) => [iz yS x.1, iz (yL yS) x.2.1, iz (yL yS) x.2.2]) yS (fun x => m_step_line x.1 x.2.1 x.2.2))) := by
  refine F.okW sc_step_line (fun _ => rfl) (fun f cdv A outer s H E x Q X hr h => ⟨_, (pss_one (ps_ret (pe_bm PySem.F.plainAttrs_str PySem.F.slot_str_join PySem.F.type_str_join mt_join pe_str (pa_cons (pe_lst (pa_cons pe_str (pa_cons (pe_op op_add_str (pv 0) pe_str) (kpa_star (K := K) (pv 1) (pa_cons pe_str (kpa_star (K := K) (pv 2) pa_nil)))))) pa_nil)))), fun fr Qv hret => ?_⟩)
  obtain ⟨p_step, p_takes, p_gives⟩ := x
  replace h : m_step_line p_step p_takes p_gives Q X := h
  unfold m_step_line at h
  refine kn_ret (we_bm (we_cSy (z := " ") (asc_of (by decide)) (by decide) (⟨tyl_yS, wa_cons (we_lstY (r := yS) (wa_cons (we_cSy (z := "step") (asc_of (by decide)) (by decide) (wa_cons (we_op (we_var rfl (we_cSy (z := ":") (asc_of (by decide)) (by decide) ?_)))))))⟩)))
  obtain ⟨g1, h⟩ := h
  refine oy_addS g1 (wa_star (we_var rfl (⟨_, _, _, rfl, wa_cons (we_cSy (z := "->") (asc_of (by decide)) (by decide) (wa_star (we_var rfl (⟨_, _, _, rfl, wa_nil ?_⟩))))⟩)))
  obtain ⟨g2, h⟩ := h
  refine ⟨(("step" : Str) :: ((p_step ++ (":" : Str)) :: (p_takes ++ (("->" : Str) :: (p_gives ++ []))))), by simp only [List.map_cons, List.map_append, List.map_nil], g2, wa_nil ?_⟩
  obtain ⟨g3, h⟩ := h
  refine my_join g3 ?_
  exact hret _ h _
abbrev s_write_plan : Stmt := topS 33
theorem sc_write_plan : FnScope ["plan", "lines", "step", "takes", "gives", "word", "number"] ["plan"] (defScope s_write_plan) := ⟨rfl, rfl, rfl, by decide +kernel, rfl, by decide +kernel, by decide +kernel⟩
def m_write_plan (p_plan : PlanD) : DM Str := fun Q X =>
  m_Plan_place_rows p_plan (fun v4 =>
  mapD v4 [] (fun x1 k2 =>
  m_place_line x1.1 x1.2 (fun v7 =>
  k2 v7) noX) (fun ys3 =>
  m_Plan_step_rows p_plan (fun v10 =>
  forD v10 ys3 (fun x9 s8 nx bk =>
  m_step_line x9.1 x9.2.1 x9.2.2 (fun v12 =>
  (s8).length < big ∧
  nx (s8 ++ [v12])) noX) (fun s8 =>
  ((s8).map (·.length)).sum + (s8).length * (("\n" : Str)).length ≤ big ∧
  Q (Txt.join ("\n" : Str) s8))) noX)) noX
theorem ok_write_plan {k : Nat} {cs : EK → Addr} {C : Addr} (B : Bl mg) (T_Plan : PlanC K mg C) (D_place_line : Def P w K mg base CX0 k "place_line" ["word", "number"] (spA (preW (erW cs) (fun x : Str × Int => [iz yS x.1, iz zI x.2]) yS (fun x => m_place_line x.1 x.2)))) (D_step_line : Def P w K mg base CX0 k "step_line" ["step", "takes", "gives"] (spA (preW (erW cs) (fun x : Str × (List Str) × (List Str) => [iz yS x.1, iz (yL yS) x.2.1, iz (yL yS) x.2.2]) yS (fun x => m_step_line x.1 x.2.1 x.2.2)))) (DM_Plan_place_rows : DefM P w K mg base CX0 k C "place_rows" ["self"] (spA (preW (erW cs) (fun x : PlanD => [iz (zPlan C) x]) (yL (z2 yS zI)) (fun x => m_Plan_place_rows x)))) (DM_Plan_step_rows : DefM P w K mg base CX0 k C "step_rows" ["self"] (spA (preW (erW cs) (fun x : PlanD => [iz (zPlan C) x]) (yL (z3 yS (yL yS) (yL yS))) (fun x => m_Plan_step_rows x))))
    (F : Src K mg "write_plan" s_write_plan ["plan"]) : Def P w K mg base CX0 (k + 1) "write_plan" ["plan"] (spA (preW (erW cs) (fun x : PlanD => [iz (zPlan C) x]) yS (fun x => m_write_plan x))) := by
  refine F.okW sc_write_plan (fun _ => rfl) (fun f cdv A outer s H E p_plan Q X hr h => ⟨_, (pss_cons (ps_setLc (i := 1) (own := [("word", 5), ("number", 6)]) (by rfl) sc_write_plan.nd rfl rfl (sw_true rfl rfl rfl (by decide +kernel)) (kpi_list (K := K) (pe_metD0 DM_Plan_place_rows T_Plan.cl hr passAt0 (pv 0))) (blkOk_by (N := ["plan", "lines", "step", "takes", "gives", "word", "number"]) (sc := defScope s_write_plan) (by decide +kernel)) (fun _ _ _ _ _ => (kpg_tup (K := K) (n := 2) rfl (pgs_cons (pg_name (i := 5) sc_write_plan.nd rfl (Or.inl rfl)) (pgs_cons (pg_name (i := 6) sc_write_plan.nd rfl (Or.inl rfl)) pgs_nil)))) (fun _ _ _ _ _ => pts_nil) (fun _ _ _ _ _ => (pe_def D_place_line hr pass0 (pa_cons (pv 5) (pa_cons (pv 6) pa_nil)))))
 (pss_cons (ps_for PassesOwn.never rfl (kpi_list (K := K) (pe_metD0 DM_Plan_step_rows T_Plan.cl hr passAt0 (pv 0))) (kpg_tup (K := K) (n := 3) rfl (pgs_cons (pg_name (i := 2) sc_write_plan.nd rfl (Or.inl rfl)) (pgs_cons (pg_name (i := 3) sc_write_plan.nd rfl (Or.inl rfl)) (pgs_cons (pg_name (i := 4) sc_write_plan.nd rfl (Or.inl rfl)) pgs_nil)))) (pss_one (ps_expr (pe_bm PySem.F.plainAttrs_list PySem.F.slot_list_append PySem.F.type_list_append mt_append (pv 1) (pa_cons (pe_def D_step_line hr pass0 (pa_cons (pv 2) (pa_cons (pv 3) (pa_cons (pv 4) pa_nil)))) pa_nil)))))
 (pss_one (ps_ret (pe_bm PySem.F.plainAttrs_str PySem.F.slot_str_join PySem.F.type_str_join mt_join pe_str (pa_cons (pv 1) pa_nil)))))), fun fr Qv hret => ?_⟩)
  replace h : m_write_plan p_plan Q X := h
  unfold m_write_plan at h
  refine kn_seq (kn_asg (i := 1) (we_lcMN (r := (z2 yS zI)) (s := yS) (wi_yL (we_met (we_var rfl (⟨ins_plan rfl, wa_nil ?_⟩))))))
  refine sps_W0 p_plan h (fun v4 h => ?_)
  refine ⟨_, _, _, rfl, fun e5 => ⟨_, _, _, _, rfl, rfl, e5, fun _ => tg2 (by decide), h, fun x1 c k2 h => ?_, fun ys3 h eys3 a6 => ?_⟩⟩
  · refine we_callE (wa_cons (we_var rfl (wa_cons (we_var rfl (wa_nil ?_)))))
    refine sps_W0 (x1.1, x1.2) h (fun v7 h => ?_)
    exact ⟨rfl, _, rfl, h⟩
  refine kn_nrm (Γ' := [some (iz (zPlan C) p_plan), some (zAt a6), none, none, none, none, none]) rfl ?_
  try dsimp only
  refine kn_seq (kn_forW (r := (z3 yS (yL yS) (yL yS))) (S := (List Str)) (fun s8 => [some (iz (zPlan C) p_plan), some (zAt a6), none, none, none, none, none]) (fun s8 => [cY a6 yS s8]) ys3 (wi_yL (we_met (we_var rfl (⟨ins_plan rfl, wa_nil ?_⟩)))))
  refine sps_W0 p_plan h (fun v10 h => ?_)
  refine ⟨_, _, _, rfl, fun e11 => ⟨_, _, _, _, _, rfl, rfl, (by and_intros), fun _ _ => tg3 (by decide) (by decide) (by decide), h, fun fr' le x9 s8 nx M hnx hbk h => ?_, fun s8 h => ?_⟩⟩
  · have hret := hret.fine le
    refine kn_appY (i := 1) (j := 0) rfl rfl (we_callE (wa_cons (we_var rfl (wa_cons (we_var rfl (wa_cons (we_var rfl (wa_nil ?_))))))))
    refine sps_W0 (x9.1, x9.2.1, x9.2.2) h (fun v12 h => ?_)
    obtain ⟨g13, h⟩ := h
    refine ⟨_, rfl, rfl, g13, ?_⟩
    exact hnx (s8 ++ [v12]) _ _ h (by and_intros) rfl
  try dsimp only
  refine kn_frzY (i := 1) (j := 0) rfl rfl ?_
  refine kn_ret (we_bm (we_cSy (z := "\n") (asc_of (by decide)) (by decide) (⟨tyl_yS, wa_cons (we_var rfl (wa_nil ?_))⟩)))
  obtain ⟨g14, h⟩ := h
  refine my_join g14 ?_
  exact hret _ h _
abbrev s_read_plan : Stmt := topS 34
theorem sc_read_plan : FnScope ["text", "places", "steps", "lines", "at", "line", "row"] ["text"] (defScope s_read_plan) := ⟨rfl, rfl, rfl, by decide +kernel, rfl, by decide +kernel, by decide +kernel⟩
def m_read_plan (p_text : Str) : DM PlanD := fun Q X =>
  joinD (fun k3 =>
  ifD (((p_text).length : Int) != 0) (((("\n" : Str).length == 0) = false ∧ p_text.length < big ∧ (Txt.split p_text ("\n" : Str)).length ≤ big ∧ ∀ z ∈ (Txt.split p_text ("\n" : Str)), z.length ≤ big) ∧
  k3 (Txt.split p_text ("\n" : Str))) (k3 ([]))) (fun v4 : (List Str) =>
  forD (enS (1) v4) ([], []) (fun x7 s6 nx bk =>
  m_read_line x7.2 (fun v9 =>
  orD ((v9).isNone) (fun k11 => ∃ zv12 : ((Str × Str × Int) ⊕ (Str × Str × (List Str) × (List Str))), v9 = (some zv12) ∧
  k11 ((decide ((uFst zv12) = ("place" : Str))) && (!(s6.2).isEmpty))) (fun c10 =>
  ifD c10 (
  X (.badText x7.1)) (
  ∃ row13 : ((Str × Str × Int) ⊕ (Str × Str × (List Str) × (List Str))), v9 = (some row13) ∧
  ifD (decide ((uFst row13) = ("place" : Str))) (
  ∃ row14 : (Str × Str × Int), row13 = (.inl row14) ∧
  (s6.1).length < big ∧
  nx ((s6.1 ++ [(row14).2]), s6.2)) (
  ∃ row16 : (Str × Str × (List Str) × (List Str)), row13 = (.inr row16) ∧
  (s6.2).length < big ∧
  nx (s6.1, (s6.2 ++ [(row16).2])))))) noX) (fun s6 =>
  mk_Plan s6.1 s6.2 (fun v18 =>
  Q v18) X))
theorem ok_read_plan {k : Nat} {cs : EK → Addr} {C f_BadText : Addr} (B : Bl mg) (D_read_line : Def P w K mg base CX0 (k + 1) "read_line" ["line"] (spA (preW (erW cs) (fun x : Str => [iz yS x]) (yO (yU (z3 yS yS zI) (z4 yS yS (yL yS) (yL yS)))) (fun x => m_read_line x)))) (X_BadText : ErrTxt P K mg false "BadText" (cs .badText) f_BadText ["line_number"]) (m_Plan : mg "Plan" = some (.ref C)) (DI_Plan : DefI P w K mg base (L2.CX P w) k C ["self", "places", "steps"] (spI C (preW (erW cs) (fun x : List (Str × Int) × List SRow => [iz yPR x.1, iz ySR x.2]) (zPlan C) (fun x => mk_Plan x.1 x.2))))
    (F : Src K mg "read_plan" s_read_plan ["text"]) : Def P w K mg base (L2.CX P w) (k + 2) "read_plan" ["text"] (spA (preW (erW cs) (fun x : Str => [iz yS x]) (zPlan C) (fun x => m_read_plan x))) := by
  refine F.okWX sc_read_plan (fun _ => rfl) (fun f cdv A outer s H E p_text Q X hr h => ⟨_, (pss_cons (ps_par (i := 1) (j := 2) (by rfl) sc_read_plan.nd rfl rfl (by decide) rfl rfl (pa_cons (pe_lst pa_nil) (pa_cons (pe_lst pa_nil) pa_nil)) (by rfl))
 (pss_cons (ps_asg (pe_ifExp (kpt_truth (Kf := K) (pv 0) (by intro _; rfl)) (pe_bm PySem.F.plainAttrs_str PySem.F.slot_str_split PySem.F.type_str_split mt_split (pv 0) (pa_cons pe_str pa_nil)) (pe_lst pa_nil)) (pg_name (i := 3) sc_read_plan.nd rfl (Or.inl rfl)))
 (pss_cons (ps_for (passes_of rfl) rfl (pi_enumS (c := 1) (by decide) (by decide) (by rfl) B.enumerate (pv 3)) (kpg_tup (K := K) (n := 2) rfl (pgs_cons (pg_name (i := 4) sc_read_plan.nd rfl (Or.inl rfl)) (pgs_cons (pg_name (i := 5) sc_read_plan.nd rfl (Or.inl rfl)) pgs_nil))) (pss_cons (ps_asg (pe_def D_read_line hr pass0 (pa_cons (pv 5) pa_nil)) (pg_name (i := 6) sc_read_plan.nd rfl (Or.inl rfl)))
 (pss_cons (ps_if (PW.pt (pw_or (pt_cmpR op_isN (pv 6) pe_non (nomark _)) (pw_or1 (PW.pt (pw_and (pt_cmpR op_eq (pe_ix (kix_tup (K := K)) (pv 6) pe_int (fun _ _ => rfl)) pe_str (nomark _)) (pw_and1 (kpt_truth (Kf := K) (pv 2) (by intro _; rfl)))))))) (pss_one (ps_raiseE rfl X_BadText hr (takes_of rfl rfl rfl rfl) (pa_cons (pv 4) pa_nil))) pss_nil)
 (pss_one (ps_if (pt_cmpR op_eq (pe_ix (kix_tup (K := K)) (pv 6) pe_int (fun _ _ => rfl)) pe_str (nomark _)) (pss_one (ps_expr (pe_bm PySem.F.plainAttrs_list PySem.F.slot_list_append PySem.F.type_list_append mt_append (pv 1) (pa_cons (pe_slice (ksl_tupA (K := K)) (pv 6) (po_some pe_int) po_none) pa_nil)))) (pss_one (ps_expr (pe_bm PySem.F.plainAttrs_list PySem.F.slot_list_append PySem.F.type_list_append mt_append (pv 2) (pa_cons (pe_slice (ksl_tupA (K := K)) (pv 6) (po_some pe_int) po_none) pa_nil)))))))))
 (pss_one (ps_ret (pe_mkD DI_Plan m_Plan hr (fun σ => Passes.at (passes_call (takes_of rfl rfl rfl rfl) (fun _ _ _ _ h => h)) σ) (pa_cons (pv 1) (pa_cons (pv 2) pa_nil)))))))), fun fr Qv hret hrse => ?_⟩)
  replace h : m_read_plan p_text Q X := h
  unfold m_read_plan at h
  refine kn_seq (kn_par (i := 1) (j := 2) (wa_cons (we_ownY (z2 yS zI) (wa_nil (⟨[], rfl, Nat.le_of_ble_eq_true rfl, fun a1 => wa_cons (we_ownY (z3 yS (yL yS) (yL yS)) (wa_nil (⟨[], rfl, Nat.le_of_ble_eq_true rfl, fun a2 => wa_nil (⟨_, _, rfl, ?_⟩)⟩)))⟩)))))
  refine kn_nrm (Γ' := [some (iz yS p_text), some (zAt a1), some (zAt a2), none, none, none, none]) rfl ?_
  try dsimp only
  refine kn_seq (kn_asg (i := 3) ?_)
  refine we_ifX (r := (yL yS)) h (fun h => ?_) (fun v4 h => ?_)
  · refine wt_tru (we_var rfl (⟨_, ty_S', ⟨rfl, fun hc => ?_, fun hc => ?_⟩⟩))
    · have h := h.1 hc
      refine we_bm (we_var rfl (⟨tyl_yS, wa_cons (we_cSy (z := "\n") (asc_of (by decide)) (by decide) (wa_nil ?_))⟩))
      obtain ⟨g5, h⟩ := h
      refine my_split g5 ?_
      exact ⟨rfl, _, rfl, h⟩
    · have h := h.2 hc
      refine we_lstY (r := yS) (wa_nil (⟨[], rfl, Nat.le_of_ble_eq_true rfl, ?_⟩))
      exact ⟨rfl, _, rfl, h⟩
  refine kn_nrm (Γ' := [some (iz yS p_text), some (zAt a1), some (zAt a2), some (iz (yL yS) v4), none, none, none]) rfl ?_
  try dsimp only
  refine kn_seq (kn_forW (r := (z2 zI yS)) (S := (List (Str × Int)) × (List (Str × (List Str) × (List Str)))) (fun s6 => [some (iz yS p_text), some (zAt a1), some (zAt a2), some (iz (yL yS) v4), none, none, none]) (fun s6 => [cY a2 (z3 yS (yL yS) (yL yS)) s6.2, cY a1 (z2 yS zI) s6.1]) ([], []) (wi_enumS (we_var rfl (⟨_, _, _, rfl, fun e8 => ⟨_, _, _, _, _, rfl, rfl, (by and_intros), fun _ _ => tg2 (by decide), h, fun fr' le x7 s6 nx M hnx hbk h => ?_, fun s6 h => ?_⟩⟩))))
  · have hret := hret.fine le
    have hrse := hrse.fine le
    refine kn_seq (kn_asg (i := 6) (We.conv (we_callE (wa_cons (we_var rfl (wa_nil ?_))))))
    refine sps_W0 x7.2 h (fun v9 h => ?_)
    refine ⟨_, Vp.Le.refl _, ?_⟩
    refine kn_nrm (Γ' := [some (iz yS p_text), some (zAt a1), some (zAt a2), some (iz (yL yS) v4), some (iz zI x7.1), some (iz yS x7.2), some (iz (yO (yU (z3 yS yS zI) (z4 yS yS (yL yS) (yL yS)))) v9)]) rfl ?_
    try dsimp only
    refine kn_seq (kn_if (wt_orC (wt_test (we_op (we_var rfl (we_cNy (oy_isO (⟨_, rfl, ?_⟩))))))))
    refine orK h (fun h => ?_) (fun c10 h => ?_)
    · refine wt_andP (wt_test (we_op (we_op (We.conv (we_var rfl ?_)))))
      obtain ⟨zv12, ezv12, h⟩ := h
      refine ⟨_, (show Vp.Le (iz (yO (yU (z3 yS yS zI) (z4 yS yS (yL yS) (yL yS)))) v9) (iz (yU (z3 yS yS zI) (z4 yS yS (yL yS) (yL yS))) zv12) from by rw [ezv12]; exact fun F v h => h), we_cI (oy_ixU34 (we_cSy (z := "place") (asc_of (by decide)) (by decide) (oy_eqS (⟨_, rfl, ⟨_, fun _ => wt_tru (we_var rfl (⟨_, ty_C' (j := 0) rfl, ⟨rfl, rfl⟩⟩)), ?_⟩⟩))))⟩
      exact ⟨rfl, h⟩
    refine ⟨fun hc => ?_, fun hc => ?_⟩
    · have h := h.1 hc
      refine kn_raiseY (wa_cons (we_var rfl (wa_nil ?_)))
      exact ⟨rfl, (fun h => nomatch h), hrse _ h _ _⟩
    · have h := h.2 hc
      refine kn_next ?_
      try dsimp only
      obtain ⟨row13, erow13, h⟩ := h
      revert h; (first | subst erow13 | rw [erow13]); intro h
      refine kn_if (wt_test (we_op (we_op (we_var rfl (we_cI (oy_ixU34 (we_cSy (z := "place") (asc_of (by decide)) (by decide) (oy_eqS (⟨_, rfl, ⟨fun hc => ?_, fun hc => ?_⟩⟩)))))))))
      · have h := h.1 hc
        obtain ⟨row14, erow14, h⟩ := h
        revert h; (first | subst erow14 | rw [erow14]); intro h
        refine kn_appY (i := 1) (j := 1) rfl rfl (we_sl (we_var rfl (wo_some (we_cI (⟨_, rfl, wo_none (oy_sl31 ?_)⟩)))))
        obtain ⟨g15, h⟩ := h
        refine ⟨_, rfl, rfl, g15, ?_⟩
        exact hnx ((s6.1 ++ [(row14).2]), s6.2) _ _ h (by and_intros) rfl
      · have h := h.2 hc
        obtain ⟨row16, erow16, h⟩ := h
        revert h; (first | subst erow16 | rw [erow16]); intro h
        refine kn_appY (i := 2) (j := 0) rfl rfl (we_sl (we_var rfl (wo_some (we_cI (⟨_, rfl, wo_none (oy_sl41 ?_)⟩)))))
        obtain ⟨g17, h⟩ := h
        refine ⟨_, rfl, rfl, g17, ?_⟩
        exact hnx (s6.1, (s6.2 ++ [(row16).2])) _ _ h (by and_intros) rfl
  try dsimp only
  refine kn_frzY (i := 1) (j := 1) rfl rfl ?_
  refine kn_frzY (i := 2) (j := 0) rfl rfl ?_
  refine kn_ret (we_mkP (wa_cons (we_var rfl (wa_cons (we_var rfl (wa_nil ?_))))))
  refine mkWE hrse (s6.1, s6.2) h (fun v18 h => ?_)
  exact hret _ h _
abbrev s__law_mixed : Stmt := topS 39
theorem sc__law_mixed : FnScope ["_law_bag_here", "_law_rows", "_law_left", "_law_told", "_law_k"] ["_law_bag_here", "_law_rows"] (defScope s__law_mixed) := ⟨rfl, rfl, rfl, by decide +kernel, rfl, by decide +kernel, by decide +kernel⟩
def m__law_mixed (p_law_rows : (List Str)) : DM (List Str) := fun Q X =>
  forD (intsF 0 (((p_law_rows).length : Int)).toNat) (p_law_rows, []) (fun x4 s3 nx bk =>
  m_draw ((s3.1).length : Int) (fun v7 =>
  ∃ m8, ixN (s3.1).length v7 = some m8 ∧ ∃ x9, (s3.1)[m8]? = some x9 ∧
  (s3.2).length < big ∧
  nx (((s3.1).eraseIdx m8), (s3.2 ++ [x9]))) noX) (fun s3 =>
  Q s3.2)
theorem ok__law_mixed {k : Nat} {cs : EK → Addr} (B : Bl mg) (D__law_draw : Def P w K mg base CX0 k "_law_draw" ["_law_bag_here", "_law_many"] (spC (preK (cBag 4) (preBW (fun x : Int => [iz zI x]) zI m_draw))))
    (F : Src K mg "_law_mixed" s__law_mixed ["_law_bag_here", "_law_rows"]) : Def P w K mg base CX0 (k + 1) "_law_mixed" ["_law_bag_here", "_law_rows"] (spC (preK (cBag 4) (preBW (fun x : (List Str) => [iz (yL yS) x]) (yL yS) (fun x => m__law_mixed x)))) := by
  refine F.okKW (fun _ _ => rfl) sc__law_mixed (fun _ => rfl) (fun f cdv A outer s H E b l p_law_rows Q hr h => ⟨_, (pss_cons (ps_asg (pe_callTy (kcall_list (K := K)) (by rfl) B.list' (by decide +kernel) (pa_cons (pv 1) pa_nil)) (pg_name (i := 2) sc__law_mixed.nd rfl (Or.inl rfl)))
 (pss_cons (ps_asg (pe_lst pa_nil) (pg_name (i := 3) sc__law_mixed.nd rfl (Or.inl rfl)))
 (pss_cons (ps_for PassesOwn.never rfl (pi_range1 (by rfl) B.range (pa_cons (pe_callB (kcall_len (K := K)) (by rfl) B.len PySem.boot_len (pa_cons (pv 1) pa_nil)) pa_nil)) (pg_name (i := 4) sc__law_mixed.nd rfl (Or.inl rfl)) (pss_one (ps_expr (pe_bm PySem.F.plainAttrs_list PySem.F.slot_list_append PySem.F.type_list_append mt_append (pv 3) (pa_cons (pe_bm PySem.F.plainAttrs_list PySem.F.slot_list_pop PySem.F.type_list_pop mt_popAt (pv 2) (pa_cons (pe_def D__law_draw hr pass0 (pa_cons (pv 0) (pa_cons (pe_callB (kcall_len (K := K)) (by rfl) B.len PySem.boot_len (pa_cons (pv 2) pa_nil)) pa_nil))) pa_nil)) pa_nil)))))
 (pss_one (ps_ret (pv 3)))))), fun fr Qv hret => ?_⟩)
  replace h : m__law_mixed p_law_rows Q noX := h
  unfold m__law_mixed at h
  refine kn_seq (kn_asg (i := 2) (we_cb (wa_cons (we_var rfl (wa_nil (cy_listO sy_L (fun a1 => ?_)))))))
  refine kn_nrm (Γ' := [some (zAt b), some (iz (yL yS) p_law_rows), some (zAt a1), none, none]) rfl ?_
  try dsimp only
  refine kn_seq (kn_asg (i := 3) (we_ownY yS (wa_nil (⟨[], rfl, Nat.le_of_ble_eq_true rfl, fun a2 => ?_⟩))))
  refine kn_nrm (Γ' := [some (zAt b), some (iz (yL yS) p_law_rows), some (zAt a1), some (zAt a2), none]) rfl ?_
  try dsimp only
  refine kn_seq (kn_forW (r := zI) (S := (List Str) × (List Str)) (fun s3 => [some (zAt b), some (iz (yL yS) p_law_rows), some (zAt a1), some (zAt a2), none]) (fun s3 => [cY a2 yS s3.2, cY a1 yS s3.1, cBag 4 b l]) (p_law_rows, []) (wi_range (wa_cons (we_cb (wa_cons (we_var rfl (wa_nil (cy_len sy_L (fun e5 => (wa_nil (⟨_, rfl, (by have hb : big = 100000 := rfl; omega), (by have hb : big = 100000 := rfl; omega), ⟨_, _, _, _, _, rfl, rfl, (by and_intros), fun _ _ => tg_name, h, fun fr' le x4 s3 nx M hnx hbk h => ?_, fun s3 h => ?_⟩⟩)))))))))))
  · have hret := hret.fine le
    refine kn_appY (i := 3) (j := 0) rfl rfl (we_popY (i := 2) (j := 1) rfl rfl (we_callE (wa_cons (we_var rfl (wa_cons (we_cb (wa_cons (we_var rfl (wa_nil (cy_len (sy_C (j := 1) rfl) (fun e6 => (wa_nil ?_))))))))))))
    refine sps_KW (mk := cBag 4) (j := 2) rfl ((s3.1).length : Int) h (fun v7 h => ?_)
    obtain ⟨m8, em8, x9, ex9, h⟩ := h
    refine ⟨_, _, _, rfl, rfl, em8, ex9, ?_⟩
    obtain ⟨g10, h⟩ := h
    refine ⟨_, rfl, rfl, g10, ?_⟩
    exact hnx (((s3.1).eraseIdx m8), (s3.2 ++ [x9])) _ _ h (by and_intros) rfl
  try dsimp only
  refine kn_ret (we_var rfl ?_)
  exact rt_frzY (j := 0) rfl (hret _ h _ (List.mem_of_getElem? (i := 1) rfl))
abbrev s__law_plan : Stmt := topS 42
theorem sc__law_plan : FnScope ["_law_plan_here", "_law_rows", "_law_row"] ["_law_plan_here"] (defScope s__law_plan) := ⟨rfl, rfl, rfl, by decide +kernel, rfl, by decide +kernel, by decide +kernel⟩
def m__law_plan (p_law_plan_here : ((List (Str × Int)) × (List (Str × (List Str) × (List Str))))) : DM PlanD := fun Q X =>
  ∀ rows3, rows3 = ((p_law_plan_here.2).map fun x1 => (x1.1, x1.2.1, x1.2.2)) →
  mk_Plan ((p_law_plan_here.1).map fun x4 => (x4.1, x4.2)) rows3 (fun v6 =>
  Q v6) noX
theorem ok__law_plan {k : Nat} {cs : EK → Addr} {C : Addr} (B : Bl mg) (m_Plan : mg "Plan" = some (.ref C)) (DI_Plan : DefI P w K mg base (L2.CX P w) k C ["self", "places", "steps"] (spI C (preW (erW cs) (fun x : List (Str × Int) × List SRow => [iz yPR x.1, iz ySR x.2]) (zPlan C) (fun x => mk_Plan x.1 x.2))))
    (F : Src K mg "_law_plan" s__law_plan ["_law_plan_here"]) : Def P w K mg base CX0 (k + 2) "_law_plan" ["_law_plan_here"] (spA (preW (erW cs) (fun x : ((List (Str × Int)) × (List (Str × (List Str) × (List Str)))) => [iz (zLp (yL (zLp yS zI)) (yL (zL3 yS (yL yS) (yL yS)))) x]) (zPlan C) (fun x => m__law_plan x))) := by
  refine F.okW sc__law_plan (fun _ => rfl) (fun f cdv A outer s H E p_law_plan_here Q X hr h => ⟨_, (pss_cons (ps_setLc (i := 1) (own := [("_law_row", 2)]) (g := gName 2) (by rfl) sc__law_plan.nd rfl rfl (sw_true rfl rfl rfl (by decide +kernel)) (kpi_list (K := K) (pe_ix (kix_list (K := K)) (pv 0) pe_int (fun _ _ => rfl))) (blkOk_by (N := ["_law_plan_here", "_law_rows", "_law_row"]) (sc := defScope s__law_plan) (by decide +kernel)) (fun _ _ _ _ _ => (pg_name (i := 2) sc__law_plan.nd rfl (Or.inl rfl))) (fun _ _ _ _ _ => pts_nil) (fun _ _ _ _ _ => (pe_tup (pa_cons (pe_ix (kix_list (K := K)) (pv 2) pe_int (fun _ _ => rfl)) (pa_cons (pe_callTy (kcall_list (K := K)) (by rfl) B.list' (by decide +kernel) (pa_cons (pe_ix (kix_list (K := K)) (pv 2) pe_int (fun _ _ => rfl)) pa_nil)) (pa_cons (pe_callTy (kcall_list (K := K)) (by rfl) B.list' (by decide +kernel) (pa_cons (pe_ix (kix_list (K := K)) (pv 2) pe_int (fun _ _ => rfl)) pa_nil)) pa_nil))))))
 (pss_one (ps_ret (pe_mkD DI_Plan m_Plan hr (fun σ => Passes.at passL σ) (pa_cons (pe_lc (own := [("_law_row", 2)]) (g := gName 2) (by rfl) sc__law_plan.nd (kpi_list (K := K) (pe_ix (kix_list (K := K)) (pv 0) pe_int (fun _ _ => rfl))) (blkOk_by (N := ["_law_plan_here", "_law_rows", "_law_row"]) (sc := defScope s__law_plan) (by decide +kernel)) (fun _ _ _ _ _ => (pg_name (i := 2) sc__law_plan.nd rfl (Or.inl rfl))) (fun _ _ _ _ _ => pts_nil) (fun _ _ _ _ _ => (pe_tup (pa_cons (pe_ix (kix_list (K := K)) (pv 2) pe_int (fun _ _ => rfl)) (pa_cons (pe_ix (kix_list (K := K)) (pv 2) pe_int (fun _ _ => rfl)) pa_nil))))) (pa_cons (pv 1) pa_nil)))))), fun fr Qv hret => ?_⟩)
  replace h : m__law_plan p_law_plan_here Q X := h
  unfold m__law_plan at h
  refine kn_seq (kn_asgL (i := 1) (r := (yL (z3 yS (yL yS) (yL yS)))) (we_lcM0 (r := (zL3 yS (yL yS) (yL yS))) (s := (z3 yS (yL yS) (yL yS))) (wi_yL (we_op (we_var rfl (we_cI (oy_ixLp1 (⟨_, _, _, rfl, fun e2 => ⟨_, fun x1 => (x1.1, x1.2.1, x1.2.2), _, rfl, rfl, e2, fun x1 => tg_name, fun x1 c => we_tup (wa_cons (we_op (we_var rfl (we_cI (oy_ixL30 (wa_cons (we_cb (wa_cons (we_op (we_var rfl (we_cI (oy_ixL31 (wa_nil (cy_list sy_L (wa_cons (we_cb (wa_cons (we_op (we_var rfl (we_cI (oy_ixL32 (wa_nil (cy_list sy_L (wa_nil (⟨Nat.le_of_ble_eq_true rfl, iz (z3 yS (yL yS) (yL yS)) (x1.1, x1.2.1, x1.2.2), tr3, ⟨rfl, rfl⟩⟩))))))))))))))))))))))))), ⟨_, rfl, fun rows3 erows3 => ?_⟩⟩⟩))))))))
  have h := h rows3 erows3
  try dsimp only
  refine kn_ret (we_mkP (wa_cons (we_lcM0 (r := (zLp yS zI)) (s := (z2 yS zI)) (wi_yL (we_op (we_var rfl (we_cI (oy_ixLp0 (⟨_, _, _, rfl, fun e5 => ⟨_, fun x4 => (x4.1, x4.2), _, rfl, rfl, e5, fun x4 => tg_name, fun x4 c => we_tup (wa_cons (we_op (we_var rfl (we_cI (oy_ixLp0 (wa_cons (we_op (we_var rfl (we_cI (oy_ixLp1 (wa_nil (⟨Nat.le_of_ble_eq_true rfl, iz (z2 yS zI) (x4.1, x4.2), tr2, ⟨rfl, rfl⟩⟩)))))))))))), wa_cons (we_var rfl (wa_nil ?_))⟩⟩)))))))))
  refine mkW0 (((p_law_plan_here.1).map fun x4 => (x4.1, x4.2)), rows3) h (fun v6 h => ?_)
  exact hret _ h _
abbrev s__law_lines : Stmt := topS 43
theorem sc__law_lines : FnScope ["_law_plan_here", "_law_lines_here", "_law_row"] ["_law_plan_here"] (defScope s__law_lines) := ⟨rfl, rfl, rfl, by decide +kernel, rfl, by decide +kernel, by decide +kernel⟩
def m__law_lines (p_law_plan_here : ((List (Str × Int)) × (List (Str × (List Str) × (List Str))))) : DM (List Str) := fun Q X =>
  forD p_law_plan_here.1 ([]) (fun x3 s2 nx bk =>
  (("place " : Str)).length + (x3.1).length ≤ big ∧
  ((("place " : Str) ++ x3.1)).length + ((" " : Str)).length ≤ big ∧
  CStr x3.2 ∧
  (((("place " : Str) ++ x3.1) ++ (" " : Str))).length + ((numS x3.2)).length ≤ big ∧
  (s2).length < big ∧
  nx (s2 ++ [(((("place " : Str) ++ x3.1) ++ (" " : Str)) ++ (numS x3.2))])) (fun s2 =>
  forD p_law_plan_here.2 s2 (fun x11 s10 nx bk =>
  (x11.1).length + ((":" : Str)).length ≤ big ∧
  ([("step" : Str), (x11.1 ++ (":" : Str))]).length + (x11.2.1).length ≤ big ∧
  (([("step" : Str), (x11.1 ++ (":" : Str))] ++ x11.2.1)).length + ([("->" : Str)]).length ≤ big ∧
  ((([("step" : Str), (x11.1 ++ (":" : Str))] ++ x11.2.1) ++ [("->" : Str)])).length + (x11.2.2).length ≤ big ∧
  ((((([("step" : Str), (x11.1 ++ (":" : Str))] ++ x11.2.1) ++ [("->" : Str)]) ++ x11.2.2)).map (·.length)).sum + (((([("step" : Str), (x11.1 ++ (":" : Str))] ++ x11.2.1) ++ [("->" : Str)]) ++ x11.2.2)).length * ((" " : Str)).length ≤ big ∧
  (s10).length < big ∧
  nx (s10 ++ [(Txt.join (" " : Str) ((([("step" : Str), (x11.1 ++ (":" : Str))] ++ x11.2.1) ++ [("->" : Str)]) ++ x11.2.2))])) (fun s10 =>
  Q s10))
theorem ok__law_lines {k : Nat} {cs : EK → Addr} (B : Bl mg) 
    (F : Src K mg "_law_lines" s__law_lines ["_law_plan_here"]) : Def P w K mg base CX0 (k + 1) "_law_lines" ["_law_plan_here"] (spA (preW (erW cs) (fun x : ((List (Str × Int)) × (List (Str × (List Str) × (List Str)))) => [iz (zLp (yL (zLp yS zI)) (yL (zL3 yS (yL yS) (yL yS)))) x]) (yL yS) (fun x => m__law_lines x))) := by
  refine F.okW sc__law_lines (fun _ => rfl) (fun f cdv A outer s H E p_law_plan_here Q X hr h => ⟨_, (pss_cons (ps_asg (pe_lst pa_nil) (pg_name (i := 1) sc__law_lines.nd rfl (Or.inl rfl)))
 (pss_cons (ps_for PassesOwn.never rfl (kpi_list (K := K) (pe_ix (kix_list (K := K)) (pv 0) pe_int (fun _ _ => rfl))) (pg_name (i := 2) sc__law_lines.nd rfl (Or.inl rfl)) (pss_one (ps_expr (pe_bm PySem.F.plainAttrs_list PySem.F.slot_list_append PySem.F.type_list_append mt_append (pv 1) (pa_cons (pe_op op_add_str (pe_op op_add_str (pe_op op_add_str pe_str (pe_ix (kix_list (K := K)) (pv 2) pe_int (fun _ _ => rfl))) pe_str) (pe_callTy call_str_int (by rfl) B.str' (by decide +kernel) (pa_cons (pe_ix (kix_list (K := K)) (pv 2) pe_int (fun _ _ => rfl)) pa_nil))) pa_nil)))))
 (pss_cons (ps_for PassesOwn.never rfl (kpi_list (K := K) (pe_ix (kix_list (K := K)) (pv 0) pe_int (fun _ _ => rfl))) (pg_name (i := 2) sc__law_lines.nd rfl (Or.inl rfl)) (pss_one (ps_expr (pe_bm PySem.F.plainAttrs_list PySem.F.slot_list_append PySem.F.type_list_append mt_append (pv 1) (pa_cons (pe_bm PySem.F.plainAttrs_str PySem.F.slot_str_join PySem.F.type_str_join mt_join pe_str (pa_cons (pe_op op_cat (pe_op op_cat (pe_op op_cat (pe_lst (pa_cons pe_str (pa_cons (pe_op op_add_str (pe_ix (kix_list (K := K)) (pv 2) pe_int (fun _ _ => rfl)) pe_str) pa_nil))) (pe_ix (kix_list (K := K)) (pv 2) pe_int (fun _ _ => rfl))) (pe_lst (pa_cons pe_str pa_nil))) (pe_ix (kix_list (K := K)) (pv 2) pe_int (fun _ _ => rfl))) pa_nil)) pa_nil)))))
 (pss_one (ps_ret (pv 1)))))), fun fr Qv hret => ?_⟩)
  replace h : m__law_lines p_law_plan_here Q X := h
  unfold m__law_lines at h
  refine kn_seq (kn_asg (i := 1) (we_ownY yS (wa_nil (⟨[], rfl, Nat.le_of_ble_eq_true rfl, fun a1 => ?_⟩))))
  try dsimp only
  refine kn_seq (kn_forW (r := (zLp yS zI)) (S := (List Str)) (fun s2 => [some (iz (zLp (yL (zLp yS zI)) (yL (zL3 yS (yL yS) (yL yS)))) p_law_plan_here), some (zAt a1), none]) (fun s2 => [cY a1 yS s2]) ([]) (wi_yL (we_op (we_var rfl (we_cI (oy_ixLp0 (⟨_, _, _, rfl, fun e4 => ⟨_, _, _, _, _, rfl, rfl, (by and_intros), fun _ _ => tg_name, h, fun fr' le x3 s2 nx M hnx hbk h => ?_, fun s2 h => ?_⟩⟩)))))))
  · have hret := hret.fine le
    refine kn_appY (i := 1) (j := 0) rfl rfl (we_op (we_op (we_op (we_cSy (z := "place ") (asc_of (by decide)) (by decide) (we_op (we_var rfl (we_cI (oy_ixLp0 ?_))))))))
    obtain ⟨g5, h⟩ := h
    refine oy_addS g5 (we_cSy (z := " ") (asc_of (by decide)) (by decide) ?_)
    obtain ⟨g6, h⟩ := h
    refine oy_addS g6 (we_cb (wa_cons (we_op (we_var rfl (we_cI (oy_ixLp1 (wa_nil ?_)))))))
    obtain ⟨g7, h⟩ := h
    refine cy_str g7 ?_
    obtain ⟨g8, h⟩ := h
    refine oy_addS g8 ?_
    obtain ⟨g9, h⟩ := h
    refine ⟨_, rfl, rfl, g9, ?_⟩
    exact hnx (s2 ++ [(((("place " : Str) ++ x3.1) ++ (" " : Str)) ++ (numS x3.2))]) _ _ h (by and_intros) rfl
  try dsimp only
  refine kn_seq (kn_forW (r := (zL3 yS (yL yS) (yL yS))) (S := (List Str)) (fun s10 => [some (iz (zLp (yL (zLp yS zI)) (yL (zL3 yS (yL yS) (yL yS)))) p_law_plan_here), some (zAt a1), none]) (fun s10 => [cY a1 yS s10]) s2 (wi_yL (we_op (we_var rfl (we_cI (oy_ixLp1 (⟨_, _, _, rfl, fun e12 => ⟨_, _, _, _, _, rfl, rfl, (by and_intros), fun _ _ => tg_name, h, fun fr' le x11 s10 nx M hnx hbk h => ?_, fun s10 h => ?_⟩⟩)))))))
  · have hret := hret.fine le
    refine kn_appY (i := 1) (j := 0) rfl rfl (we_bm (we_cSy (z := " ") (asc_of (by decide)) (by decide) (⟨tyl_yS, wa_cons (we_op (we_op (we_op (we_lstY (r := yS) (wa_cons (we_cSy (z := "step") (asc_of (by decide)) (by decide) (wa_cons (we_op (we_op (we_var rfl (we_cI (oy_ixL30 (we_cSy (z := ":") (asc_of (by decide)) (by decide) ?_)))))))))))))⟩)))
    obtain ⟨g13, h⟩ := h
    refine oy_addS g13 (wa_nil (⟨[("step" : Str), (x11.1 ++ (":" : Str))], rfl, Nat.le_of_ble_eq_true rfl, we_op (we_var rfl (we_cI (oy_ixL31 ?_)))⟩))
    obtain ⟨g14, h⟩ := h
    refine oy_cat g14 (we_lstY (r := yS) (wa_cons (we_cSy (z := "->") (asc_of (by decide)) (by decide) (wa_nil (⟨[("->" : Str)], rfl, Nat.le_of_ble_eq_true rfl, ?_⟩)))))
    obtain ⟨g15, h⟩ := h
    refine oy_cat g15 (we_op (we_var rfl (we_cI (oy_ixL32 ?_))))
    obtain ⟨g16, h⟩ := h
    refine oy_cat g16 (wa_nil ?_)
    obtain ⟨g17, h⟩ := h
    refine my_join g17 ?_
    obtain ⟨g18, h⟩ := h
    refine ⟨_, rfl, rfl, g18, ?_⟩
    exact hnx (s10 ++ [(Txt.join (" " : Str) ((([("step" : Str), (x11.1 ++ (":" : Str))] ++ x11.2.1) ++ [("->" : Str)]) ++ x11.2.2))]) _ _ h (by and_intros) rfl
  try dsimp only
  refine kn_ret (we_var rfl ?_)
  exact rt_frzY (j := 0) rfl (hret _ h _)
abbrev s__law_orderly : Stmt := topS 44
theorem sc__law_orderly : FnScope ["_law_plan_here", "_law_words", "_law_steps", "_law_row", "_law_taken", "_law_word_here"] ["_law_plan_here"] (defScope s__law_orderly) := ⟨rfl, rfl, rfl, by decide +kernel, rfl, by decide +kernel, by decide +kernel⟩
def m__law_orderly (p_law_plan_here : ((List (Str × Int)) × (List (Str × (List Str) × (List Str))))) : DM ((List (Str × Int)) × (List (Str × (List Str) × (List Str)))) := fun Q X =>
  ∀ words3, words3 = ((p_law_plan_here.1).map fun x1 => x1.1) →
  forD p_law_plan_here.2 ([]) (fun x6 s5 nx bk =>
  ∀ taken10, taken10 = ((words3).filter fun x8 => (decide (x8 ∈ x6.2.1))).map (fun x8 => x8) →
  (s5).length < big ∧
  nx (s5 ++ [(x6.1, taken10, ((words3).filter fun x11 => (decide (x11 ∈ x6.2.2))).map (fun x11 => x11))])) (fun s5 =>
  Q (p_law_plan_here.1, s5))
theorem ok__law_orderly {k : Nat} {cs : EK → Addr} (B : Bl mg) 
    (F : Src K mg "_law_orderly" s__law_orderly ["_law_plan_here"]) : Def P w K mg base CX0 (k + 1) "_law_orderly" ["_law_plan_here"] (spA (preW (erW cs) (fun x : ((List (Str × Int)) × (List (Str × (List Str) × (List Str)))) => [iz (zLp (yL (zLp yS zI)) (yL (zL3 yS (yL yS) (yL yS)))) x]) (zLp (yL (zLp yS zI)) (yL (zL3 yS (yL yS) (yL yS)))) (fun x => m__law_orderly x))) := by
  refine F.okW sc__law_orderly (fun _ => rfl) (fun f cdv A outer s H E p_law_plan_here Q X hr h => ⟨_, (pss_cons (ps_setLc (i := 1) (own := [("_law_row", 3)]) (g := gName 3) (by rfl) sc__law_orderly.nd rfl rfl (sw_true rfl rfl rfl (by decide +kernel)) (kpi_list (K := K) (pe_ix (kix_list (K := K)) (pv 0) pe_int (fun _ _ => rfl))) (blkOk_by (N := ["_law_plan_here", "_law_words", "_law_steps", "_law_row", "_law_taken", "_law_word_here"]) (sc := defScope s__law_orderly) (by decide +kernel)) (fun _ _ _ _ _ => (pg_name (i := 3) sc__law_orderly.nd rfl (Or.inl rfl))) (fun _ _ _ _ _ => pts_nil) (fun _ _ _ _ _ => (pe_ix (kix_list (K := K)) (pv 3) pe_int (fun _ _ => rfl))))
 (pss_cons (ps_asg (pe_lst pa_nil) (pg_name (i := 2) sc__law_orderly.nd rfl (Or.inl rfl)))
 (pss_cons (ps_for PassesOwn.never rfl (kpi_list (K := K) (pe_ix (kix_list (K := K)) (pv 0) pe_int (fun _ _ => rfl))) (pg_name (i := 3) sc__law_orderly.nd rfl (Or.inr rfl)) (pss_cons (ps_setLc (i := 4) (own := [("_law_word_here", 5)]) (g := gName 5) (by rfl) sc__law_orderly.nd rfl rfl (sw_true rfl rfl rfl (by decide +kernel)) (kpi_list (K := K) (pv 1)) (blkOk_by (N := ["_law_plan_here", "_law_words", "_law_steps", "_law_row", "_law_taken", "_law_word_here"]) (sc := defScope s__law_orderly) (by decide +kernel)) (fun _ _ _ _ _ => (pg_name (i := 5) sc__law_orderly.nd rfl (Or.inl rfl))) (fun _ _ _ _ _ => pts_one (pt_cmpR (kop_in (K := K)) (pv 5) (pe_ix (kix_list (K := K)) (pv 3) pe_int (fun _ _ => rfl)) rfl)) (fun _ _ _ _ _ => (pv 5)))
 (pss_one (ps_expr (pe_bm PySem.F.plainAttrs_list PySem.F.slot_list_append PySem.F.type_list_append mt_append (pv 2) (pa_cons (pe_lst (pa_cons (pe_ix (kix_list (K := K)) (pv 3) pe_int (fun _ _ => rfl)) (pa_cons (pv 4) (pa_cons (pe_lc (own := [("_law_word_here", 5)]) (g := gName 5) (by rfl) sc__law_orderly.nd (kpi_list (K := K) (pv 1)) (blkOk_by (N := ["_law_plan_here", "_law_words", "_law_steps", "_law_row", "_law_taken", "_law_word_here"]) (sc := defScope s__law_orderly) (by decide +kernel)) (fun _ _ _ _ _ => (pg_name (i := 5) sc__law_orderly.nd rfl (Or.inl rfl))) (fun _ _ _ _ _ => pts_one (pt_cmpR (kop_in (K := K)) (pv 5) (pe_ix (kix_list (K := K)) (pv 3) pe_int (fun _ _ => rfl)) rfl)) (fun _ _ _ _ _ => (pv 5))) pa_nil)))) pa_nil))))))
 (pss_one (ps_ret (pe_lst (pa_cons (pe_ix (kix_list (K := K)) (pv 0) pe_int (fun _ _ => rfl)) (pa_cons (pv 2) pa_nil)))))))), fun fr Qv hret => ?_⟩)
  replace h : m__law_orderly p_law_plan_here Q X := h
  unfold m__law_orderly at h
  refine kn_seq (kn_asgL (i := 1) (r := (yL yS)) (we_lcM0 (r := (zLp yS zI)) (s := yS) (wi_yL (we_op (we_var rfl (we_cI (oy_ixLp0 (⟨_, _, _, rfl, fun e2 => ⟨_, fun x1 => x1.1, _, rfl, rfl, e2, fun x1 => tg_name, fun x1 c => we_op (we_var rfl (we_cI (oy_ixLp0 (⟨rfl, rfl⟩)))), ⟨_, rfl, fun words3 ewords3 => ?_⟩⟩⟩))))))))
  have h := h words3 ewords3
  refine kn_nrm (Γ' := [some (iz (zLp (yL (zLp yS zI)) (yL (zL3 yS (yL yS) (yL yS)))) p_law_plan_here), some (iz (yL yS) words3), none, none, none, none]) rfl ?_
  try dsimp only
  refine kn_seq (kn_asg (i := 2) (we_ownY (zL3 yS (yL yS) (yL yS)) (wa_nil (⟨[], rfl, Nat.le_of_ble_eq_true rfl, fun a4 => ?_⟩))))
  refine kn_nrm (Γ' := [some (iz (zLp (yL (zLp yS zI)) (yL (zL3 yS (yL yS) (yL yS)))) p_law_plan_here), some (iz (yL yS) words3), some (zAt a4), none, none, none]) rfl ?_
  try dsimp only
  refine kn_seq (kn_forW (r := (zL3 yS (yL yS) (yL yS))) (S := (List (Str × (List Str) × (List Str)))) (fun s5 => [some (iz (zLp (yL (zLp yS zI)) (yL (zL3 yS (yL yS) (yL yS)))) p_law_plan_here), some (iz (yL yS) words3), some (zAt a4), none, none, none]) (fun s5 => [cY a4 (zL3 yS (yL yS) (yL yS)) s5]) ([]) (wi_yL (we_op (we_var rfl (we_cI (oy_ixLp1 (⟨_, _, _, rfl, fun e7 => ⟨_, _, _, _, _, rfl, rfl, (by and_intros), fun _ _ => tg_name, h, fun fr' le x6 s5 nx M hnx hbk h => ?_, fun s5 h => ?_⟩⟩)))))))
  · have hret := hret.fine le
    refine kn_seq (kn_asgL (i := 4) (r := (yL yS)) (we_lcP (r := yS) (s := yS) (wi_yL (we_var rfl (⟨_, _, _, rfl, fun e9 => ⟨_, fun x8 => (decide (x8 ∈ x6.2.1)), fun x8 => x8, _, rfl, rfl, e9, fun x8 => tg_name, fun x8 c => wt_test (we_op (we_var rfl (we_op (we_var rfl (we_cI (oy_ixL31 (oy_inS sy_L (⟨_, rfl, ⟨rfl, rfl⟩⟩)))))))), fun x8 c => we_var rfl (⟨rfl, rfl⟩), ⟨_, rfl, fun taken10 etaken10 => ?_⟩⟩⟩)))))
    have h := h taken10 etaken10
    refine kn_nrm (Γ' := [some (iz (zLp (yL (zLp yS zI)) (yL (zL3 yS (yL yS) (yL yS)))) p_law_plan_here), some (iz (yL yS) words3), some (zAt a4), some (iz (zL3 yS (yL yS) (yL yS)) x6), some (iz (yL yS) taken10), none]) rfl ?_
    try dsimp only
    refine kn_appY (i := 2) (j := 0) rfl rfl (we_lst3 (r := yS) (s := (yL yS)) (o := (yL yS)) (wa_cons (we_op (we_var rfl (we_cI (oy_ixL30 (wa_cons (we_var rfl (wa_cons (we_lcP (r := yS) (s := yS) (wi_yL (we_var rfl (⟨_, _, _, rfl, fun e12 => ⟨_, fun x11 => (decide (x11 ∈ x6.2.2)), fun x11 => x11, _, rfl, rfl, e12, fun x11 => tg_name, fun x11 c => wt_test (we_op (we_var rfl (we_op (we_var rfl (we_cI (oy_ixL32 (oy_inS sy_L (⟨_, rfl, ⟨rfl, rfl⟩⟩)))))))), fun x11 c => we_var rfl (⟨rfl, rfl⟩), wa_nil (⟨_, _, _, rfl, ?_⟩)⟩⟩)))))))))))))
    obtain ⟨g13, h⟩ := h
    refine ⟨_, rfl, rfl, g13, ?_⟩
    exact hnx (s5 ++ [(x6.1, taken10, ((words3).filter fun x11 => (decide (x11 ∈ x6.2.2))).map (fun x11 => x11))]) _ _ h (by and_intros) rfl
  try dsimp only
  refine kn_frzY (i := 2) (j := 0) rfl rfl ?_
  refine kn_ret (we_lstp (r := (yL (zLp yS zI))) (s := (yL (zL3 yS (yL yS) (yL yS)))) (wa_cons (we_op (we_var rfl (we_cI (oy_ixLp0 (wa_cons (we_var rfl (wa_nil (⟨_, _, rfl, ?_⟩))))))))))
  exact hret _ h _
abbrev s__law_rows_right : Stmt := topS 45
theorem sc__law_rows_right : FnScope ["_law_made", "_law_plan_here", "_law_orderly_here", "_law_row"] ["_law_made", "_law_plan_here"] (defScope s__law_rows_right) := ⟨rfl, rfl, rfl, by decide +kernel, rfl, by decide +kernel, by decide +kernel⟩
def m__law_rows_right (p_law_made : PlanD) (p_law_plan_here : ((List (Str × Int)) × (List (Str × (List Str) × (List Str))))) : DM Bool := fun Q X =>
  m__law_orderly p_law_plan_here (fun v1 =>
  m_Plan_place_rows p_law_made (fun v2 =>
  ifD (!decide (v2 = ((p_law_plan_here.1).map fun x3 => (x3.1, x3.2)))) (
  Q false) (
  m_Plan_step_rows p_law_made (fun v5 =>
  Q (decide (v5 = ((v1.2).map fun x6 => (x6.1, x6.2.1, x6.2.2))))) noX)) noX) noX
theorem ok__law_rows_right {k : Nat} {cs : EK → Addr} {C : Addr} (B : Bl mg) (T_Plan : PlanC K mg C) (D__law_orderly : Def P w K mg base CX0 k "_law_orderly" ["_law_plan_here"] (spA (preW (erW cs) (fun x : ((List (Str × Int)) × (List (Str × (List Str) × (List Str)))) => [iz (zLp (yL (zLp yS zI)) (yL (zL3 yS (yL yS) (yL yS)))) x]) (zLp (yL (zLp yS zI)) (yL (zL3 yS (yL yS) (yL yS)))) (fun x => m__law_orderly x)))) (DM_Plan_place_rows : DefM P w K mg base CX0 k C "place_rows" ["self"] (spA (preW (erW cs) (fun x : PlanD => [iz (zPlan C) x]) (yL (z2 yS zI)) (fun x => m_Plan_place_rows x)))) (DM_Plan_step_rows : DefM P w K mg base CX0 k C "step_rows" ["self"] (spA (preW (erW cs) (fun x : PlanD => [iz (zPlan C) x]) (yL (z3 yS (yL yS) (yL yS))) (fun x => m_Plan_step_rows x))))
    (F : Src K mg "_law_rows_right" s__law_rows_right ["_law_made", "_law_plan_here"]) : Def P w K mg base CX0 (k + 1) "_law_rows_right" ["_law_made", "_law_plan_here"] (spA (preW (erW cs) (fun x : PlanD × ((List (Str × Int)) × (List (Str × (List Str) × (List Str)))) => [iz (zPlan C) x.1, iz (zLp (yL (zLp yS zI)) (yL (zL3 yS (yL yS) (yL yS)))) x.2]) zB (fun x => m__law_rows_right x.1 x.2))) := by
  refine F.okW sc__law_rows_right (fun _ => rfl) (fun f cdv A outer s H E x Q X hr h => ⟨_, (pss_cons (ps_asg (pe_def D__law_orderly hr pass0 (pa_cons (pv 1) pa_nil)) (pg_name (i := 2) sc__law_rows_right.nd rfl (Or.inl rfl)))
 (pss_cons (ps_if (pt_cmpR (kop_neD (K := K) hr.units) (pe_metD0 DM_Plan_place_rows T_Plan.cl hr passAt0 (pv 0)) (pe_lc (own := [("_law_row", 3)]) (g := gName 3) (by rfl) sc__law_rows_right.nd (kpi_list (K := K) (pe_ix (kix_list (K := K)) (pv 1) pe_int (fun _ _ => rfl))) (blkOk_by (N := ["_law_made", "_law_plan_here", "_law_orderly_here", "_law_row"]) (sc := defScope s__law_rows_right) (by decide +kernel)) (fun _ _ _ _ _ => (pg_name (i := 3) sc__law_rows_right.nd rfl (Or.inl rfl))) (fun _ _ _ _ _ => pts_nil) (fun _ _ _ _ _ => (pe_tup (pa_cons (pe_ix (kix_list (K := K)) (pv 3) pe_int (fun _ _ => rfl)) (pa_cons (pe_ix (kix_list (K := K)) (pv 3) pe_int (fun _ _ => rfl)) pa_nil))))) (nomark _)) (pss_one (ps_ret pe_bl)) pss_nil)
 (pss_one (ps_ret (pe_cmpR (kop_eqD (K := K) hr.units) (pe_metD0 DM_Plan_step_rows T_Plan.cl hr passAt0 (pv 0)) (pe_lc (own := [("_law_row", 3)]) (g := gName 3) (by rfl) sc__law_rows_right.nd (kpi_list (K := K) (pe_ix (kix_list (K := K)) (pv 2) pe_int (fun _ _ => rfl))) (blkOk_by (N := ["_law_made", "_law_plan_here", "_law_orderly_here", "_law_row"]) (sc := defScope s__law_rows_right) (by decide +kernel)) (fun _ _ _ _ _ => (pg_name (i := 3) sc__law_rows_right.nd rfl (Or.inl rfl))) (fun _ _ _ _ _ => pts_nil) (fun _ _ _ _ _ => (pe_tup (pa_cons (pe_ix (kix_list (K := K)) (pv 3) pe_int (fun _ _ => rfl)) (pa_cons (pe_ix (kix_list (K := K)) (pv 3) pe_int (fun _ _ => rfl)) (pa_cons (pe_ix (kix_list (K := K)) (pv 3) pe_int (fun _ _ => rfl)) pa_nil)))))) (nomark _)))))), fun fr Qv hret => ?_⟩)
  obtain ⟨p_law_made, p_law_plan_here⟩ := x
  replace h : m__law_rows_right p_law_made p_law_plan_here Q X := h
  unfold m__law_rows_right at h
  refine kn_seq (kn_asg (i := 2) (we_callE (wa_cons (we_var rfl (wa_nil ?_)))))
  refine sps_W0 p_law_plan_here h (fun v1 h => ?_)
  try dsimp only
  refine kn_seq (kn_if (wt_test (we_op (we_met (we_var rfl (⟨ins_plan rfl, wa_nil ?_⟩))))))
  refine sps_W0 p_law_made h (fun v2 h => ?_)
  refine we_lcM0 (r := (zLp yS zI)) (s := (z2 yS zI)) (wi_yL (we_op (we_var rfl (we_cI (oy_ixLp0 (⟨_, _, _, rfl, fun e4 => ⟨_, fun x3 => (x3.1, x3.2), _, rfl, rfl, e4, fun x3 => tg_name, fun x3 c => we_tup (wa_cons (we_op (we_var rfl (we_cI (oy_ixLp0 (wa_cons (we_op (we_var rfl (we_cI (oy_ixLp1 (wa_nil (⟨Nat.le_of_ble_eq_true rfl, iz (z2 yS zI) (x3.1, x3.2), tr2, ⟨rfl, rfl⟩⟩)))))))))))), ops_neD (r := (yL (z2 yS zI))) (by decide) (⟨_, rfl, ⟨fun hc => ?_, fun hc => ?_⟩⟩)⟩⟩))))))
  · have h := h.1 hc
    refine kn_ret (we_cB ?_)
    exact hret _ h _
  · have h := h.2 hc
    refine kn_next ?_
    try dsimp only
    refine kn_ret (we_op (we_met (we_var rfl (⟨ins_plan rfl, wa_nil ?_⟩))))
    refine sps_W0 p_law_made h (fun v5 h => ?_)
    refine we_lcM0 (r := (zL3 yS (yL yS) (yL yS))) (s := (z3 yS (yL yS) (yL yS))) (wi_yL (we_op (we_var rfl (we_cI (oy_ixLp1 (⟨_, _, _, rfl, fun e7 => ⟨_, fun x6 => (x6.1, x6.2.1, x6.2.2), _, rfl, rfl, e7, fun x6 => tg_name, fun x6 c => we_tup (wa_cons (we_op (we_var rfl (we_cI (oy_ixL30 (wa_cons (we_op (we_var rfl (we_cI (oy_ixL31 (wa_cons (we_op (we_var rfl (we_cI (oy_ixL32 (wa_nil (⟨Nat.le_of_ble_eq_true rfl, iz (z3 yS (yL yS) (yL yS)) (x6.1, x6.2.1, x6.2.2), tr3, ⟨rfl, rfl⟩⟩))))))))))))))))), ops_eqD (r := (yL (z3 yS (yL yS) (yL yS)))) (by decide) ?_⟩⟩))))))
    exact hret _ h _
abbrev s_law : Stmt := topS 46
theorem sc_law : FnScope ["_law_script", "_law_bag_here", "_law_plan_here", "_law_turned", "_law_told", "_law_text", "_law_row", "_law_other"] ["_law_script"] (defScope s_law) := ⟨rfl, rfl, rfl, by decide +kernel, rfl, by decide +kernel, by decide +kernel⟩
def m_law  : DM Bool := fun Q X =>
  m_draw (13 : Int) (fun v1 =>
  m_draw (17 : Int) (fun v2 =>
  m__law_any ([v1, v2]) (100 : Int) (fun v3 =>
  mapD v3.2 [] (fun x4 k5 =>
  m__law_mixed x4.2.1 (fun v9 =>
  m__law_mixed x4.2.2 (fun v10 =>
  k5 (x4.1, v9, v10)) noX) noX) (fun ys6 =>
  ∀ turned11, turned11 = (v3.1, ys6) →
  m__law_lines turned11 (fun v12 =>
  ((v12).map (·.length)).sum + (v12).length * (("\n" : Str)).length ≤ big ∧
  m_read_plan (Txt.join ("\n" : Str) v12) (fun v14 =>
  orD (!true) (fun k16 => m__law_plan v3 (fun v17 =>
  m_Plan___eq__ v14 v17 (fun v18 =>
  orD (!v18) (fun k20 => m__law_rows_right v14 v3 (fun v21 =>
  k20 (!v21)) noX) (fun c19 =>
  k16 c19)) noX) noX) (fun c15 =>
  ifD c15 (
  Q false) (
  m__law_orderly v3 (fun v22 =>
  m__law_lines v22 (fun v23 =>
  ((v23).map (·.length)).sum + (v23).length * (("\n" : Str)).length ≤ big ∧
  ∀ text25, text25 = (Txt.join ("\n" : Str) v23) →
  m_write_plan v14 (fun v26 =>
  orD (!decide (v26 = text25)) (fun k28 => m_read_plan text25 (fun v29 =>
  m_Plan___eq__ v29 v14 (fun v30 =>
  k28 (!v30)) noX) noX) (fun c27 =>
  ifD c27 (
  Q false) (
  ifD (decide (v3.1 = [])) (
  Q (decide (text25 = ("" : Str)))) (
  m_draw ((v3.1).length : Int) (fun v33 =>
  ∃ m35, ixN (v3).1.length v33 = some m35 ∧ ∃ v34, (v3).1[m35]? = some v34 ∧
  (((v3).1).map (·.1)).Nodup ∧
  m__law_lines (((v3).1).set m35 ((v34).1, (Int.fmod (v34.2 + (1 : Int)) (100 : Int))), (v3).2) (fun v37 =>
  ((v37).map (·.length)).sum + (v37).length * (("\n" : Str)).length ≤ big ∧
  m_read_plan (Txt.join ("\n" : Str) v37) (fun v39 =>
  m_Plan___eq__ v39 v14 (fun v40 =>
  andD (!v40) (fun k42 => m__law_rows_right v39 (((v3).1).set m35 ((v34).1, (Int.fmod (v34.2 + (1 : Int)) (100 : Int))), (v3).2) (fun v43 =>
  andD v43 (fun k45 => m_write_plan v39 (fun v46 =>
  k45 (!decide (v46 = text25))) noX) (fun c44 =>
  k42 c44)) noX) (fun c41 =>
  Q c41)) noX) noX) noX) noX)))) noX) noX) noX))) noX) noX)) noX) noX) noX
theorem ok_law {k : Nat} {cs : EK → Addr} {C : Addr} (B : Bl mg) (T_Plan : PlanC K mg C) (D__law_any : Def P w K mg base CX0 (k + 1) "_law_any" ["_law_bag_here", "_law_most", "_law_reach"] (spC (preK (cBag 4) (preBW (fun x : (List Int) × Int => [iz (yL zI) x.1, iz zI x.2]) (zLp (yL (zLp yS zI)) (yL (zL3 yS (yL yS) (yL yS)))) (fun x => m__law_any x.1 x.2))))) (D__law_draw : Def P w K mg base CX0 (k + 1) "_law_draw" ["_law_bag_here", "_law_many"] (spC (preK (cBag 4) (preBW (fun x : Int => [iz zI x]) zI m_draw)))) (D__law_mixed : Def P w K mg base CX0 (k + 1) "_law_mixed" ["_law_bag_here", "_law_rows"] (spC (preK (cBag 4) (preBW (fun x : (List Str) => [iz (yL yS) x]) (yL yS) (fun x => m__law_mixed x))))) (D_read_plan : Def P w K mg base (L2.CX P w) (k + 1) "read_plan" ["text"] (spA (preW (erW cs) (fun x : Str => [iz yS x]) (zPlan C) (fun x => m_read_plan x)))) (D__law_lines : Def P w K mg base CX0 (k + 1) "_law_lines" ["_law_plan_here"] (spA (preW (erW cs) (fun x : ((List (Str × Int)) × (List (Str × (List Str) × (List Str)))) => [iz (zLp (yL (zLp yS zI)) (yL (zL3 yS (yL yS) (yL yS)))) x]) (yL yS) (fun x => m__law_lines x)))) (D__law_plan : Def P w K mg base CX0 (k + 1) "_law_plan" ["_law_plan_here"] (spA (preW (erW cs) (fun x : ((List (Str × Int)) × (List (Str × (List Str) × (List Str)))) => [iz (zLp (yL (zLp yS zI)) (yL (zL3 yS (yL yS) (yL yS)))) x]) (zPlan C) (fun x => m__law_plan x)))) (D__law_rows_right : Def P w K mg base CX0 (k + 1) "_law_rows_right" ["_law_made", "_law_plan_here"] (spA (preW (erW cs) (fun x : PlanD × ((List (Str × Int)) × (List (Str × (List Str) × (List Str)))) => [iz (zPlan C) x.1, iz (zLp (yL (zLp yS zI)) (yL (zL3 yS (yL yS) (yL yS)))) x.2]) zB (fun x => m__law_rows_right x.1 x.2)))) (D__law_orderly : Def P w K mg base CX0 (k + 1) "_law_orderly" ["_law_plan_here"] (spA (preW (erW cs) (fun x : ((List (Str × Int)) × (List (Str × (List Str) × (List Str)))) => [iz (zLp (yL (zLp yS zI)) (yL (zL3 yS (yL yS) (yL yS)))) x]) (zLp (yL (zLp yS zI)) (yL (zL3 yS (yL yS) (yL yS)))) (fun x => m__law_orderly x)))) (D_write_plan : Def P w K mg base CX0 (k + 1) "write_plan" ["plan"] (spA (preW (erW cs) (fun x : PlanD => [iz (zPlan C) x]) yS (fun x => m_write_plan x)))) (CC_Plan : CmpC K C) (NC_Plan : NeC K C) (O_Plan : IsO K C) (kt_Plan_Plan : PySem.W.kitOne K (.ref C) (.ref C) = some true) (DMk_Plan___eq__ : DefM P w K mg base CX0 k C "__eq__" ["self", "other"] (spA (preW (erW cs) (fun x : PlanD × PlanD => [iz (zPlan C) x.1, iz (zPlan C) x.2]) zB (fun x => m_Plan___eq__ x.1 x.2)))) (D__law_bag : Def P w K mg base CX0 (k + 1) "_law_bag" ["_law_script"] (spN (preBag K 4)))
    {f : Addr} {fd : FuncData} (F : Fun K "law" "law" s_law f fd) (hm : m_law (· = true) noX) : FnOk P w K mg base CX0 (k + 2) f fd ["_law_script"] (spLaw K) := by
  refine F.ok sc_law (fun vs H Q E h => ?_) (fun cdv A outer s H vs Q E hr h => ?_)
  · obtain ⟨a, ns, rfl, _⟩ := h
    rfl
  obtain ⟨a, ns, rfl, hS, hlen, q⟩ := h
  refine ⟨_, (pss_cons (ps_asg (pe_def D__law_bag hr pass0 (pa_cons (pv 0) pa_nil)) (pg_name (i := 1) sc_law.nd rfl (Or.inr rfl)))
 (pss_cons (ps_asg (pe_def D__law_any hr pass0 (pa_cons (pv 1) (pa_cons (pe_lst (pa_cons (pe_def D__law_draw hr pass0 (pa_cons (pv 1) (pa_cons pe_int pa_nil))) (pa_cons (pe_def D__law_draw hr pass0 (pa_cons (pv 1) (pa_cons pe_int pa_nil))) pa_nil))) (pa_cons pe_int pa_nil)))) (pg_name (i := 2) sc_law.nd rfl (Or.inl rfl)))
 (pss_cons (ps_asg (pe_lst (pa_cons (pe_ix (kix_list (K := K)) (pv 2) pe_int (fun _ _ => rfl)) (pa_cons (pe_lc (own := [("_law_row", 6)]) (g := gName 6) (by rfl) sc_law.nd (kpi_list (K := K) (pe_ix (kix_list (K := K)) (pv 2) pe_int (fun _ _ => rfl))) (blkOk_by (N := ["_law_script", "_law_bag_here", "_law_plan_here", "_law_turned", "_law_told", "_law_text", "_law_row", "_law_other"]) (sc := defScope s_law) (by decide +kernel)) (fun _ _ _ _ _ => (pg_name (i := 6) sc_law.nd rfl (Or.inl rfl))) (fun _ _ _ _ _ => pts_nil) (fun _ _ _ _ _ => (pe_lst (pa_cons (pe_ix (kix_list (K := K)) (pv 6) pe_int (fun _ _ => rfl)) (pa_cons (pe_def D__law_mixed hr pass0 (pa_cons (pv 1) (pa_cons (pe_ix (kix_list (K := K)) (pv 6) pe_int (fun _ _ => rfl)) pa_nil))) (pa_cons (pe_def D__law_mixed hr pass0 (pa_cons (pv 1) (pa_cons (pe_ix (kix_list (K := K)) (pv 6) pe_int (fun _ _ => rfl)) pa_nil))) pa_nil)))))) pa_nil))) (pg_name (i := 3) sc_law.nd rfl (Or.inl rfl)))
 (pss_cons (ps_asg (pe_def D_read_plan hr passL (pa_cons (pe_bm PySem.F.plainAttrs_str PySem.F.slot_str_join PySem.F.type_str_join mt_join pe_str (pa_cons (pe_def D__law_lines hr pass0 (pa_cons (pv 3) pa_nil)) pa_nil)) pa_nil)) (pg_name (i := 4) sc_law.nd rfl (Or.inl rfl)))
 (pss_cons (ps_if (PW.pt (pw_or (pt_not (pt_val (pe_callB (kcall_isi (K := K)) (by rfl) B.isinstance (by decide +kernel) (pa_cons (pv 4) (pa_cons (pe_glo (glo_plan T_Plan)) pa_nil))))) (pw_or (pt_cmp (pc_ne2 DMk_Plan___eq__ CC_Plan NC_Plan hr passAt0 (pv 4) (pe_def D__law_plan hr pass0 (pa_cons (pv 2) pa_nil)))) (pw_or1 (pt_not (pt_val (pe_def D__law_rows_right hr pass0 (pa_cons (pv 4) (pa_cons (pv 2) pa_nil))))))))) (pss_one (ps_ret pe_bl)) pss_nil)
 (pss_cons (ps_asg (pe_bm PySem.F.plainAttrs_str PySem.F.slot_str_join PySem.F.type_str_join mt_join pe_str (pa_cons (pe_def D__law_lines hr pass0 (pa_cons (pe_def D__law_orderly hr pass0 (pa_cons (pv 2) pa_nil)) pa_nil)) pa_nil)) (pg_name (i := 5) sc_law.nd rfl (Or.inl rfl)))
 (pss_cons (ps_if (PW.pt (pw_or (pt_cmpR op_ne (pe_def D_write_plan hr pass0 (pa_cons (pv 4) pa_nil)) (pv 5) (nomark _)) (pw_or1 (pt_cmp (pc_ne2 DMk_Plan___eq__ CC_Plan NC_Plan hr passAt0 (pe_def D_read_plan hr passL (pa_cons (pv 5) pa_nil)) (pv 4)))))) (pss_one (ps_ret pe_bl)) pss_nil)
 (pss_cons (ps_if (pt_cmpR (kop_eqD (K := K) hr.units) (pe_ix (kix_list (K := K)) (pv 2) pe_int (fun _ _ => rfl)) (pe_lst pa_nil) (nomark _)) (pss_one (ps_ret (pe_cmpR op_eq (pv 5) pe_str (nomark _)))) pss_nil)
 (pss_cons (ps_asg (pe_ix (kix_list (K := K)) (pe_ix (kix_list (K := K)) (pv 2) pe_int (fun _ _ => rfl)) (pe_def D__law_draw hr pass0 (pa_cons (pv 1) (pa_cons (pe_callB (kcall_len (K := K)) (by rfl) B.len PySem.boot_len (pa_cons (pe_ix (kix_list (K := K)) (pv 2) pe_int (fun _ _ => rfl)) pa_nil)) pa_nil))) (fun _ _ => rfl)) (pg_name (i := 6) sc_law.nd rfl (Or.inl rfl)))
 (pss_cons (ps_asg (pe_op op_modN (pe_callTy call_int1 (by rfl) B.int' (by decide +kernel) (pa_cons (pe_op op_add (pe_ix (kix_list (K := K)) (pv 6) pe_int (fun _ _ => rfl)) pe_int) pa_nil)) pe_int) (pg_sub (pv 6) pe_int set_list))
 (pss_cons (ps_asg (pe_def D_read_plan hr passL (pa_cons (pe_bm PySem.F.plainAttrs_str PySem.F.slot_str_join PySem.F.type_str_join mt_join pe_str (pa_cons (pe_def D__law_lines hr pass0 (pa_cons (pv 2) pa_nil)) pa_nil)) pa_nil)) (pg_name (i := 7) sc_law.nd rfl (Or.inl rfl)))
 (pss_one (ps_ret (pe_and (pe_cmp (pc_ne2 DMk_Plan___eq__ CC_Plan NC_Plan hr passAt0 (pv 7) (pv 4)) (nomark _)) (pe_and (pe_def D__law_rows_right hr pass0 (pa_cons (pv 7) (pa_cons (pv 2) pa_nil))) (pe_one (pe_cmpR op_ne (pe_def D_write_plan hr pass0 (pa_cons (pv 7) pa_nil)) (pv 5) (nomark _)))))))))))))))))), ?_⟩
  have hret : ∀ {fr : L2.Fr} {Θ : List Cel} (c : Bool), c = true → Rt fr Θ Q (iz zB c) := fun {fr Θ} c hc v F' H' ok hv => by
    subst hc
    have hv : v = .bl true := hv
    subst hv
    exact q H'
  refine (?_ : ∀ fr, Kn fr (L2.envOf _ [iz (zScr K) ns]) [] _) ⟨H, H, []⟩ _ H H (OkF.start (Same.refl H)) (env_start (.cons ⟨a, rfl, hS, hlen⟩ .nil))
  intro fr
  refine kn_seq (kn_asg (we_callE (wa_cons (we_var rfl (wa_nil ?_)))))
  refine sps_N ⟨ns, rfl, rfl, rfl⟩ (fun p Θn ⟨b, l, e1, e2⟩ => ?_) (fun e he => he.elim)
  subst e1 e2
  try dsimp only
  have h := hm
  unfold m_law at h
  refine kn_seq (kn_asg (i := 2) (we_callE (wa_cons (we_var rfl (wa_cons (we_lstY (r := zI) (wa_cons (we_callE (wa_cons (we_var rfl (wa_cons (we_cI (wa_nil ?_)))))))))))))
  refine sps_KW (mk := cBag 4) (j := 0) rfl (13 : Int) h (fun v1 h => ?_)
  refine wa_cons (we_callE (wa_cons (we_var rfl (wa_cons (we_cI (wa_nil ?_))))))
  refine sps_KW (mk := cBag 4) (j := 0) rfl (17 : Int) h (fun v2 h => ?_)
  refine wa_nil (⟨[v1, v2], rfl, Nat.le_of_ble_eq_true rfl, wa_cons (we_cI (wa_nil ?_))⟩)
  refine sps_KW (mk := cBag 4) (j := 0) rfl ([v1, v2], (100 : Int)) h (fun v3 h => ?_)
  try dsimp only
  refine kn_seq (kn_asgL (i := 3) (r := (zLp (yL (zLp yS zI)) (yL (zL3 yS (yL yS) (yL yS))))) (we_lstp (r := (yL (zLp yS zI))) (s := (yL (zL3 yS (yL yS) (yL yS)))) (wa_cons (we_op (we_var rfl (we_cI (oy_ixLp0 (wa_cons (we_lcM (r := (zL3 yS (yL yS) (yL yS))) (s := (zL3 yS (yL yS) (yL yS))) (wi_yL (we_op (we_var rfl (we_cI (oy_ixLp1 (⟨_, _, _, rfl, fun e7 => ⟨_, _, _, _, rfl, rfl, e7, fun _ => tg_name, h, fun x4 c k5 h => ?_, fun ys6 h eys6 => ?_⟩⟩)))))))))))))))
  · refine we_lst3 (r := yS) (s := (yL yS)) (o := (yL yS)) (wa_cons (we_op (we_var rfl (we_cI (oy_ixL30 (wa_cons (we_callE (wa_cons (we_var rfl (wa_cons (we_op (we_var rfl (we_cI (oy_ixL31 (wa_nil ?_)))))))))))))))
    refine sps_KW (mk := cBag 4) (j := 1) rfl x4.2.1 h (fun v9 h => ?_)
    refine wa_cons (we_callE (wa_cons (we_var rfl (wa_cons (we_op (we_var rfl (we_cI (oy_ixL32 (wa_nil ?_)))))))))
    refine sps_KW (mk := cBag 4) (j := 1) rfl x4.2.2 h (fun v10 h => ?_)
    refine wa_nil (⟨_, _, _, rfl, ?_⟩)
    exact ⟨rfl, _, rfl, h⟩
  refine wa_nil (⟨_, _, rfl, ⟨_, rfl, fun turned11 eturned11 => ?_⟩⟩)
  have h := h turned11 eturned11
  try dsimp only
  refine kn_seq (kn_asg (i := 4) (we_callE (wa_cons (we_bm (we_cSy (z := "\n") (asc_of (by decide)) (by decide) (⟨tyl_yS, wa_cons (we_callE (wa_cons (we_var rfl (wa_nil ?_))))⟩))))))
  refine sps_W0 turned11 h (fun v12 h => ?_)
  refine wa_nil ?_
  obtain ⟨g13, h⟩ := h
  refine my_join g13 (wa_nil ?_)
  refine sps_W0 (Txt.join ("\n" : Str) v12) h (fun v14 h => ?_)
  try dsimp only
  refine kn_seq (kn_if (wt_orC (wt_not (wt_b (we_cb (wa_cons (we_var rfl (wa_cons (we_cA (wa_nil (cb_isO O_Plan (InsP.c (ins_plan (m := "__contains__") rfl)) kt_Plan_Plan (⟨_, rfl, ?_⟩))))))))))))
  refine orK h (fun h => ?_) (fun c15 h => ?_)
  · refine wt_orC (wt_test (we_ne2 (we_var rfl (we_callE (wa_cons (we_var rfl (wa_nil ?_)))))))
    refine sps_W0 v3 h (fun v17 h => ?_)
    refine ⟨InsP.c (ins_plan (m := "__contains__") rfl), rg_C (InsP.c (ins_plan (m := "__contains__") rfl)), ?_⟩
    refine sps_W0 (v14, v17) h (fun v18 h => ?_)
    refine ⟨_, rfl, ⟨_, rfl, ?_⟩⟩
    refine orK h (fun h => ?_) (fun c19 h => ?_)
    · refine wt_not (wt_b (we_callE (wa_cons (we_var rfl (wa_cons (we_var rfl (wa_nil ?_)))))))
      refine sps_W0 (v14, v3) h (fun v21 h => ?_)
      refine ⟨_, rfl, ?_⟩
      exact ⟨rfl, h⟩
    exact ⟨rfl, h⟩
  refine ⟨fun hc => ?_, fun hc => ?_⟩
  · have h := h.1 hc
    refine kn_ret (we_cB ?_)
    exact hret _ h
  · have h := h.2 hc
    refine kn_next ?_
    try dsimp only
    refine kn_seq (kn_asgL (i := 5) (r := yS) (we_bm (we_cSy (z := "\n") (asc_of (by decide)) (by decide) (⟨tyl_yS, wa_cons (we_callE (wa_cons (we_callE (wa_cons (we_var rfl (wa_nil ?_))))))⟩))))
    refine sps_W0 v3 h (fun v22 h => ?_)
    refine wa_nil ?_
    refine sps_W0 v22 h (fun v23 h => ?_)
    refine wa_nil ?_
    obtain ⟨g24, h⟩ := h
    refine my_join g24 (⟨_, rfl, fun text25 etext25 => ?_⟩)
    have h := h text25 etext25
    try dsimp only
    refine kn_seq (kn_if (wt_orC (wt_test (we_op (we_callE (wa_cons (we_var rfl (wa_nil ?_))))))))
    refine sps_W0 v14 h (fun v26 h => ?_)
    refine we_var rfl (oy_neS (⟨_, rfl, ?_⟩))
    refine orK h (fun h => ?_) (fun c27 h => ?_)
    · refine wt_test (we_ne2 (we_callE (wa_cons (we_var rfl (wa_nil ?_)))))
      refine sps_W0 text25 h (fun v29 h => ?_)
      refine we_var rfl (⟨InsP.c (ins_plan (m := "__contains__") rfl), rg_C (InsP.c (ins_plan (m := "__contains__") rfl)), ?_⟩)
      refine sps_W0 (v29, v14) h (fun v30 h => ?_)
      refine ⟨_, rfl, ⟨_, rfl, ?_⟩⟩
      exact ⟨rfl, h⟩
    refine ⟨fun hc => ?_, fun hc => ?_⟩
    · have h := h.1 hc
      refine kn_ret (we_cB ?_)
      exact hret _ h
    · have h := h.2 hc
      refine kn_next ?_
      try dsimp only
      refine kn_seq (kn_if (wt_test (we_op (we_op (we_var rfl (we_cI (oy_ixLp0 (we_lstY (r := (zLp yS zI)) (wa_nil (⟨[], rfl, Nat.le_of_ble_eq_true rfl, oq_eq (r := (yL (zLp yS zI))) (by decide) (⟨_, rfl, ⟨fun hc => ?_, fun hc => ?_⟩⟩)⟩))))))))))
      · have h := h.1 hc
        refine kn_ret (we_op (we_var rfl (we_cSy (z := "") (asc_of (by decide)) (by decide) (oy_eqS ?_))))
        exact hret _ h
      · have h := h.2 hc
        refine kn_next ?_
        try dsimp only
        refine kn_free (own_all rfl) (kn_opn (i := 2) rfl fun bs31 lbs31 => ?_)
        try dsimp only [List.set]
        refine kn_seq (kn_asg (i := 6) (we_op (we_op (we_var rfl (we_cI (oy_opn0 (we_callE (wa_cons (we_var rfl (wa_cons (we_cb (wa_cons (we_op (We.conv (we_var rfl (⟨_, le_opn, we_cI (oy_ixLp0 (wa_nil (cy_len sy_L (fun e32 => (wa_nil ?_)))))⟩))))))))))))))))
        refine sps_KW (mk := cBag 4) (j := 0) rfl ((v3.1).length : Int) h (fun v33 h => ?_)
        obtain ⟨m35, em35, v34, ev34, h⟩ := h
        obtain ⟨bm35, ebm35⟩ : ∃ b, bs31[m35]? = some b := ⟨_, List.getElem?_eq_getElem (by rw [lbs31]; exact (List.getElem?_eq_some_iff.mp ev34).1)⟩
        refine oy_bsAt lbs31 em35 ev34 ebm35 ?_
        try dsimp only
        refine kn_seq ?_
        obtain ⟨g36, h⟩ := h
        refine kn_rowput (Γ2 := [none, none, none, none, some (iz (zPlan C) v14), some (iz yS text25), none, none]) (ix := 6) (ip := 2) (m := m35) rfl rfl ebm35 ev34 g36 (env_nol (.cons (.inl rfl) (.cons (.inl rfl) (.cons (.inl rfl) (.cons (.inl rfl) (.cons (.inr ⟨rfl, fun p e F F' v n h => by cases e; exact NoLst.ok (r := (zPlan C)) n h⟩) (.cons (.inr ⟨rfl, fun p e F F' v n h => by cases e; exact NoLst.ok (r := yS) n h⟩) (.cons (.inl rfl) (.cons (.inl rfl) (.nil)))))))))) (we_op (we_cb (wa_cons (we_op (we_op (We.conv (we_var rfl (⟨_, le_rw, we_cI (oy_ixLp1 (we_cI (ops_I0 (wa_nil (cb_int (we_cI (ops_IC (C := fun _ j => j ≠ 0) (by decide) (we_cI (⟨_, rfl, rfl, ?_⟩)))))))))⟩))))))))
        try dsimp only
        refine kn_seq (kn_asg (i := 7) (we_callE (wa_cons (we_bm (we_cSy (z := "\n") (asc_of (by decide)) (by decide) (⟨tyl_yS, wa_cons (we_callE (wa_cons (we_var rfl (wa_nil ?_))))⟩))))))
        refine sps_W0 (((v3).1).set m35 ((v34).1, (Int.fmod (v34.2 + (1 : Int)) (100 : Int))), (v3).2) h (fun v37 h => ?_)
        refine wa_nil ?_
        obtain ⟨g38, h⟩ := h
        refine my_join g38 (wa_nil ?_)
        refine sps_W0 (Txt.join ("\n" : Str) v37) h (fun v39 h => ?_)
        try dsimp only
        refine kn_ret (we_andC (we_ne2 (we_var rfl (we_var rfl (⟨InsP.c (ins_plan (m := "__contains__") rfl), rg_C (InsP.c (ins_plan (m := "__contains__") rfl)), ?_⟩)))))
        refine sps_W0 (v39, v14) h (fun v40 h => ?_)
        refine ⟨_, rfl, ?_⟩
        refine andKv h (fun h => ?_) (fun c41 h => ?_)
        · refine we_andC (we_callE (wa_cons (we_var rfl (wa_cons (we_var rfl (wa_nil ?_))))))
          refine sps_W0 (v39, (((v3).1).set m35 ((v34).1, (Int.fmod (v34.2 + (1 : Int)) (100 : Int))), (v3).2)) h (fun v43 h => ?_)
          refine andKv h (fun h => ?_) (fun c44 h => ?_)
          · refine we_op (we_callE (wa_cons (we_var rfl (wa_nil ?_))))
            refine sps_W0 v39 h (fun v46 h => ?_)
            refine we_var rfl (oy_neS ?_)
            exact ⟨rfl, _, rfl, h⟩
          exact ⟨rfl, _, rfl, h⟩
        exact hret _ h
end
section
theorem ixN_nat {n j : Nat} (h : j < n) : ixN n (j : Int) = some j := by
  unfold ixN
  rw [if_pos (by omega), if_pos (by omega), Int.toNat_natCast]
theorem erase_perm {α : Type} : ∀ (l : List α) (j : Nat) (h : j < l.length), (l[j] :: l.eraseIdx j).Perm l
  | a :: l, 0, _ => .refl _
  | a :: l, j + 1, h => by
    show (l[j]'(Nat.lt_of_succ_lt_succ h) :: a :: l.eraseIdx j).Perm (a :: l)
    exact (List.Perm.swap _ _ _).trans ((erase_perm l j (Nat.lt_of_succ_lt_succ h)).cons a)
theorem mixed_ok {ws : List Str} {Q : List Str → Prop} {X : HE → Prop} (hl : ws.length ≤ 100) (h : ∀ r, r.Perm ws → Q r) : m__law_mixed ws Q X := by
  unfold m__law_mixed
  rw [Int.toNat_natCast]
  refine forD_inv (fun done (s : List Str × List Str) => s.1.length + done.length = ws.length ∧ (s.1 ++ s.2).Perm ws) ⟨by show ws.length + 0 = _; omega, by show (ws ++ []).Perm ws; rw [List.append_nil]⟩ (fun pre x post s nx e ⟨h1, h2⟩ hnx => ?_) fun s ⟨h1, h2⟩ => ?_
  · have hp := (intsF_split e).2
    refine draw_ok (by omega) (Int.le_trans (show (s.1.length : Int) ≤ 1000 by omega) (by decide)) fun j hj => ?_
    have hj : j < s.1.length := by omega
    have hl2 := h2.length_eq
    rw [List.length_append] at hl2
    refine ⟨j, ixN_nat hj, s.1[j], List.getElem?_eq_getElem hj, lt_big (by omega), hnx _ ⟨?_, ?_⟩⟩
    · show (s.1.eraseIdx j).length + _ = _
      rw [List.length_eraseIdx_of_lt hj, List.length_append]
      show _ + (_ + 1) = _
      omega
    · show (s.1.eraseIdx j ++ (s.2 ++ [s.1[j]])).Perm ws
      refine .trans ?_ h2
      have h3 : (s.1[j] :: s.1.eraseIdx j).Perm s.1 := erase_perm s.1 j hj
      have h4 : (s.1.eraseIdx j ++ (s.2 ++ [s.1[j]])).Perm (s.1[j] :: (s.1.eraseIdx j ++ s.2)) := by
        rw [← List.append_assoc]
        exact List.perm_append_singleton _ _
      exact h4.trans (by rw [← List.cons_append]; exact h3.append_right _)
  · rw [intsF_len] at h1
    have e : s.1 = [] := List.eq_nil_of_length_eq_zero (by omega)
    rw [e, List.nil_append] at h2
    exact h _ h2
theorem plan_ok {prs : List (Str × Int)} {srs : List SRow} (ok : OkRows prs srs) {Q : PlanD → Prop} {X : HE → Prop} (h : Q (planOf prs srs)) : m__law_plan (prs, srs) Q X := by
  unfold m__law_plan
  intro rows hr
  have e1 : rows = srs := by rw [hr]; simp
  have e2 : prs.map (fun x4 : Str × Int => (x4.1, x4.2)) = prs := by simp
  rw [e1]
  show mk_Plan (prs.map fun x4 : Str × Int => (x4.1, x4.2)) srs _ _
  rw [e2]
  exact ⟨ok.B, fun _ => h, fun y hy => by rw [ok.due] at hy; cases hy⟩
def pline (x : Str × Int) : Str := ((("place " : Str) ++ x.1) ++ (" " : Str)) ++ numS x.2
def swords (x : SRow) : List Str := ((("step" : Str) :: ((x.1 ++ (":" : Str)) :: (x.2.1 ++ (("->" : Str) :: (x.2.2 ++ []))))))
def sline (x : SRow) : Str := Txt.join (" " : Str) (swords x)
theorem num99 {n : Int} (h0 : 0 ≤ n) (h : n ≤ 99) : CStr n ∧ (numS n).length ≤ 2 := by
  obtain ⟨k, rfl⟩ : ∃ k : Nat, n = k := ⟨n.toNat, by omega⟩
  exact ⟨cstr_nat (Nat.lt_trans (show k < 100 by omega) (by decide)), num_lenN (by decide) (by show k < 100; omega)⟩
theorem pline_len {x : Str × Int} (h : x.1.length ≤ 12) (h0 : 0 ≤ x.2) (h1 : x.2 ≤ 99) : (pline x).length ≤ 21 := by
  have := (num99 h0 h1).2
  have e : (("place " : Str)).length = 6 := by decide
  have e2 : ((" " : Str)).length = 1 := by decide
  unfold pline
  rw [len_app, len_app, len_app, e, e2]
  omega
theorem join_len_le (sep : Str) (l : List Str) : (Txt.join sep l).length ≤ (l.map (·.length)).sum + l.length * sep.length := by
  rw [TL.join_eq]
  induction l with
  | nil => exact Nat.zero_le _
  | cons a l ih =>
    cases l with
    | nil =>
      show a.length ≤ _
      simp
    | cons b l =>
      show (a ++ sep ++ Str.join sep (b :: l)).length ≤ _
      rw [len_app, len_app]
      rw [List.map_cons, List.sum_cons, List.length_cons, Nat.add_mul, Nat.one_mul]
      omega
/-- a row of a step, all of whose words are short -/
structure SRowS (x : SRow) : Prop where
  n : x.1.length ≤ 12
  t : ∀ y ∈ x.2.1, y.length ≤ 12
  g : ∀ y ∈ x.2.2, y.length ≤ 12
  lt : x.2.1.length ≤ 12
  lg : x.2.2.length ≤ 12
theorem swords_len {x : SRow} (h : SRowS x) : (swords x).length ≤ 27 ∧ ∀ y ∈ swords x, y.length ≤ 13 := by
  have e1 : (("step" : Str)).length = 4 := by decide
  have e2 : ((":" : Str)).length = 1 := by decide
  have e3 : (("->" : Str)).length = 2 := by decide
  have h1 := h.lt
  have h2 := h.lg
  have h3 := h.n
  constructor
  · unfold swords
    simp only [List.length_cons, List.length_append, List.length_nil]
    omega
  · intro y hy
    unfold swords at hy
    simp only [List.mem_cons, List.mem_append, List.not_mem_nil, or_false] at hy
    rcases hy with rfl | rfl | hy | rfl | hy
    · omega
    · rw [len_app]; omega
    · have := h.t y hy; omega
    · omega
    · have := h.g y hy; omega
theorem sline_len {x : SRow} (h : SRowS x) : (sline x).length ≤ 400 ∧ ((swords x).map (·.length)).sum + (swords x).length ≤ 400 := by
  obtain ⟨h1, h2⟩ := swords_len h
  have h3 := sum_le h2
  have h4 := join_len_le (" " : Str) (swords x)
  have e2 : ((" " : Str)).length = 1 := by decide
  rw [e2, Nat.mul_one] at h4
  unfold sline
  omega
theorem place_line_ok {x : Str × Int} (h : x.1.length ≤ 12) (h0 : 0 ≤ x.2) (h1 : x.2 ≤ 99) {Q : Str → Prop} {X : HE → Prop} (hq : Q (pline x)) : m_place_line x.1 x.2 Q X := by
  unfold m_place_line
  have h2 := num99 h0 h1
  have e : (("place " : Str)).length = 6 := by decide
  have e2 : ((" " : Str)).length = 1 := by decide
  have hb : big = 100000 := rfl
  rw [empty_app]
  have z0 : (Str.empty).length = 0 := rfl
  refine ⟨by omega, by omega, by rw [len_app]; omega, h2.1, by rw [len_app, len_app]; omega, by rw [len_app, len_app, len_app]; omega, hq⟩
theorem step_line_ok {x : SRow} (h : SRowS x) {Q : Str → Prop} {X : HE → Prop} (hq : Q (sline x)) : m_step_line x.1 x.2.1 x.2.2 Q X := by
  unfold m_step_line
  have hb : big = 100000 := rfl
  have e1 : ((":" : Str)).length = 1 := by decide
  have e2 : ((" " : Str)).length = 1 := by decide
  have h1 := (swords_len h).1
  have h2 := (sline_len h).2
  have h3 := h.n
  refine ⟨by omega, Nat.le_trans h1 (by decide), ?_, hq⟩
  show ((swords x).map (·.length)).sum + (swords x).length * _ ≤ big
  rw [e2]
  omega
/-- the lines of rows -/
def linesOf (prs : List (Str × Int)) (srs : List SRow) : List Str := prs.map pline ++ srs.map sline
theorem lines_ok {prs : List (Str × Int)} {srs : List SRow} (hp : ∀ x ∈ prs, x.1.length ≤ 12 ∧ 0 ≤ x.2 ∧ x.2 ≤ 99) (hs : ∀ x ∈ srs, SRowS x) (lp : prs.length ≤ 12) (ls : srs.length ≤ 16) {Q : List Str → Prop} {X : HE → Prop} (h : Q (linesOf prs srs)) : m__law_lines (prs, srs) Q X := by
  unfold m__law_lines
  have hb : big = 100000 := rfl
  have e : (("place " : Str)).length = 6 := by decide
  have e1 : ((":" : Str)).length = 1 := by decide
  have e2 : ((" " : Str)).length = 1 := by decide
  refine forD_push pline (N := big) (fun x hx s nx hl hn => ?_) (by show 0 + prs.length ≤ _; omega) ?_
  · obtain ⟨a1, a2, a3⟩ := hp x hx
    have a4 := num99 a2 a3
    exact ⟨by omega, by rw [len_app]; omega, a4.1, by rw [len_app, len_app]; omega, hl, hn⟩
  · rw [List.nil_append]
    refine forD_push sline (N := big) (fun x hx s nx hl hn => ?_) (by rw [List.length_map]; show prs.length + srs.length ≤ _; omega) h
    have sx := hs x hx
    have h1 := (swords_len sx).1
    have h2 := (sline_len sx).2
    have h3 := sx.n
    have h4 := sx.lt
    have h5 := sx.lg
    have ew : ((([("step" : Str), (x.1 ++ (":" : Str))] ++ x.2.1) ++ [("->" : Str)]) ++ x.2.2) = swords x := by
      unfold swords
      simp
    refine ⟨by omega, by show 2 + x.2.1.length ≤ _; omega, ?_, ?_, ?_, hl, ?_⟩
    · rw [List.length_append]; show 2 + x.2.1.length + 1 ≤ _; omega
    · rw [List.length_append, List.length_append]; show 2 + x.2.1.length + 1 + x.2.2.length ≤ _; omega
    · rw [ew, e2]; omega
    · rw [ew]; exact hn
theorem write_ok {d : PlanD} {prs : List (Str × Int)} (pk : PlanOk d) (h1 : d.places = prs.map (·.1)) (h2 : d.begin = prs.map (·.2)) (hs : ∀ x ∈ d.steps, SRowS x) {Q : Str → Prop} {X : HE → Prop} (h : Q (Txt.join ("\n" : Str) (linesOf prs d.steps))) : m_write_plan d Q X := by
  unfold m_write_plan
  have hb : big = 100000 := rfl
  have lp : prs.length ≤ 12 := by have := pk.p12; rw [h1, List.length_map] at this; exact this
  have ls := pk.s16
  have hp : ∀ x ∈ prs, x.1.length ≤ 12 ∧ 0 ≤ x.2 ∧ x.2 ≤ 99 := fun x hx => ⟨(pk.pa x.1 (by rw [h1]; exact List.mem_map.mpr ⟨x, hx, rfl⟩)).len, pk.bn x.2 (by rw [h2]; exact List.mem_map.mpr ⟨x, hx, rfl⟩)⟩
  refine place_rows_ok h1 h2 (mapD_ok pline (fun x hx k hk => place_line_ok (hp x hx).1 (hp x hx).2.1 (hp x hx).2.2 hk) ?_)
  rw [List.nil_append]
  refine step_rows_ok pk (forD_push sline (N := big) (fun x hx s nx hl hn => step_line_ok (hs x hx) ⟨hl, hn⟩) (by rw [List.length_map]; omega) ⟨?_, h⟩)
  have e2 : (("\n" : Str)).length = 1 := by decide
  have := sum_le (l := linesOf prs d.steps) (m := 400) fun y hy => by
    rcases List.mem_append.mp hy with q | q
    · obtain ⟨x, hx, rfl⟩ := List.mem_map.mp q
      have := pline_len (hp x hx).1 (hp x hx).2.1 (hp x hx).2.2
      omega
    · obtain ⟨x, hx, rfl⟩ := List.mem_map.mp q
      exact (sline_len (hs x hx)).1
  have hl : (linesOf prs d.steps).length ≤ 28 := by
    unfold linesOf
    rw [List.length_append, List.length_map, List.length_map]
    omega
  show ((linesOf prs d.steps).map (·.length)).sum + (linesOf prs d.steps).length * _ ≤ big
  rw [e2]
  omega
theorem orderly_ok {prs : List (Str × Int)} {srs : List SRow} (ls : srs.length ≤ 16) {Q : List (Str × Int) × List SRow → Prop} {X : HE → Prop} (h : Q (prs, (planOf prs srs).steps)) : m__law_orderly (prs, srs) Q X := by
  unfold m__law_orderly
  intro words hw
  refine forD_push (fun x : SRow => (x.1, inOrd (prs.map (·.1)) x.2.1, inOrd (prs.map (·.1)) x.2.2)) (N := big) (fun x hx s nx hl hn t ht => ⟨hl, ?_⟩) (by have hb : big = 100000 := rfl; show 0 + srs.length ≤ _; omega) ?_
  · rw [ht, List.map_id', List.map_id', hw]
    exact hn
  · rw [List.nil_append]
    exact h
theorem OkRows.turned {prs : List (Str × Int)} {srs trs : List SRow} (ok : OkRows prs srs) (h : Paired (fun (x y : SRow) => y.1 = x.1 ∧ y.2.1.Perm x.2.1 ∧ y.2.2.Perm x.2.2) srs trs) : OkRows prs trs ∧ planOf prs trs = planOf prs srs := by
  have hl : trs.length = srs.length := (Paired.len h).symm
  have hn : trs.map (·.1) = srs.map (·.1) := by
    clear ok hl
    induction h with
    | nil => rfl
    | cons a _ ih => rw [List.map_cons, List.map_cons, ih, a.1]
  refine ⟨⟨ok.pw, ok.pn, fun y hy => ?_, by rw [hn]; exact ok.sn, ok.p12, by rw [hl]; exact ok.s16⟩, ?_⟩
  · obtain ⟨j, hj⟩ := List.getElem?_of_mem hy
    obtain ⟨x, hx, e1, e2, e3⟩ := Paired.get' h hj
    obtain ⟨a0, a1, a2, a3, a4, a5⟩ := ok.sw x (List.mem_of_getElem? hx)
    refine ⟨by rw [e1]; exact a0, fun q => a1 ?_, e2.nodup_iff.mpr a2, fun z hz => a3 z (e2.mem_iff.mp hz), e3.nodup_iff.mpr a4, fun z hz => a5 z (e3.mem_iff.mp hz)⟩
    rw [q] at e2
    exact e2.nil_eq.symm
  · unfold planOf
    congr 1
    clear ok hl hn
    induction h with
    | nil => rfl
    | cons a _ ih =>
      obtain ⟨e1, e2, e3⟩ := a
      rw [List.map_cons, List.map_cons, ih, e1, inOrd_congr' fun y => e2.mem_iff, inOrd_congr' fun y => e3.mem_iff]
theorem OkRows.short {prs : List (Str × Int)} {srs : List SRow} (ok : OkRows prs srs) : ∀ x ∈ (planOf prs srs).steps, SRowS x := fun x hx => by
  obtain ⟨r, hr, rfl⟩ := List.mem_map.mp hx
  have pw : ∀ y ∈ prs.map (·.1), y.length ≤ 12 := fun y hy => by
    obtain ⟨q, hq, rfl⟩ := List.mem_map.mp hy
    exact (ok.pw q hq).1.len
  have il : ∀ ns, (inOrd (prs.map (·.1)) ns).length ≤ 12 := fun ns => by
    have := (List.filter_sublist (l := prs.map (·.1)) (p := fun p => decide (p ∈ ns))).length_le
    rw [List.length_map] at this
    have := ok.p12
    unfold inOrd
    omega
  exact ⟨(ok.sw r hr).1.len, fun y hy => pw y (inOrd_sub hy).1, fun y hy => pw y (inOrd_sub hy).1, il _, il _⟩
end
section
open TL
theorem tl_sp : tl (" " : Str) = [32] := by rw [tl_ofString]; rfl
theorem tl_nl : tl ("\n" : Str) = [10] := by rw [tl_ofString]; rfl
theorem tl_pl : tl ("place" : Str) = [112, 108, 97, 99, 101] := by rw [tl_ofString]; rfl
theorem tl_st : tl ("step" : Str) = [115, 116, 101, 112] := by rw [tl_ofString]; rfl
theorem tl_co : tl (":" : Str) = [58] := by rw [tl_ofString]; rfl
theorem tl_ar : tl ("->" : Str) = [45, 62] := by rw [tl_ofString]; rfl
theorem tl_inj {a b : Str} (h : tl a = tl b) : a = b := by
  rw [← mk_tl a, ← mk_tl b, h]
theorem okc_no : ∀ c : Nat, okc c = true → c ≠ 32 ∧ c ≠ 10 ∧ c ≠ 45 ∧ c ≠ 58 := by
  have h : okc 32 = false ∧ okc 10 = false ∧ okc 45 = false ∧ okc 58 = false := by decide +kernel
  intro c hc
  refine ⟨fun e => ?_, fun e => ?_, fun e => ?_, fun e => ?_⟩ <;> subst e
  · rw [h.1] at hc; cases hc
  · rw [h.2.1] at hc; cases hc
  · rw [h.2.2.1] at hc; cases hc
  · rw [h.2.2.2] at hc; cases hc
theorem wd_no {z : Str} (h : Wd z) : (∀ c ∈ tl z, c ≠ 32 ∧ c ≠ 10 ∧ c ≠ 45 ∧ c ≠ 58) ∧ z.length ≤ 12 := by
  obtain ⟨c, r, e, hc, ho, hl⟩ := wd_inv h
  refine ⟨fun d hd => okc_no d (ho d ?_), h.len⟩
  have e : tl z = c :: r := e
  first | exact hd | (rw [e] at hd; exact hd)
/-- numbers of a plan and their texts -/
def numB (k : Nat) : Bool := decide ((numS (k : Int)).length ≤ 2) && decide (1 ≤ (numS (k : Int)).length) && ((numS (k : Int)).cps.toList.all fun c => decide (c ∈ DIGITS.cps.toList) && okc c) && decide (¬ ((numS (k : Int)).cps.toList.head? = some 48 ∧ 1 < (numS (k : Int)).length)) && decide (PySem.intText? (numS (k : Int)) = some (k : Int))
theorem numB_all : (List.range 100).all numB = true := by decide +kernel
theorem num_facts {n : Int} (h0 : 0 ≤ n) (h1 : n ≤ 99) : (numS n).length ≤ 2 ∧ 1 ≤ (numS n).length ∧ (∀ c ∈ (numS n).cps.toList, c ∈ DIGITS.cps.toList ∧ okc c = true) ∧ ¬ ((numS n).cps.toList.head? = some 48 ∧ 1 < (numS n).length) ∧ PySem.intText? (numS n) = some n := by
  obtain ⟨k, rfl⟩ : ∃ k : Nat, n = k := ⟨n.toNat, by omega⟩
  have := List.all_eq_true.mp numB_all k (List.mem_range.mpr (by omega))
  unfold numB at this
  rw [Bool.and_eq_true, Bool.and_eq_true, Bool.and_eq_true, Bool.and_eq_true, decide_eq_true_iff, decide_eq_true_iff, decide_eq_true_iff, decide_eq_true_iff, List.all_eq_true] at this
  obtain ⟨⟨⟨⟨a, b⟩, c⟩, d⟩, e⟩ := this
  refine ⟨a, b, fun x hx => ?_, d, e⟩
  have := c x hx
  rw [Bool.and_eq_true, decide_eq_true_iff] at this
  exact this
theorem read_number_ok {n : Int} (h0 : 0 ≤ n) (h1 : n ≤ 99) {Q : Option Int → Prop} {X : HE → Prop} (q : Q (some n)) : m_read_number (numS n) Q X := by
  unfold m_read_number
  obtain ⟨a, b, c, d, e⟩ := num_facts h0 h1
  refine ifD_f ?_ (forD_all (fun x hx nx hn => ?_) ?_)
  · rw [decide_eq_true (show (1 : Int) ≤ ((numS n).length : Int) by omega), decide_eq_true (show ((numS n).length : Int) ≤ 6 by omega)]
    rfl
  · obtain ⟨s, hs, rfl⟩ := List.mem_map.mp hx
    refine ⟨rfl, ifD_f ?_ hn⟩
    rw [decide_eq_true (sgnL_mem.mpr (c s hs).1)]
    rfl
  · have hl : (numS n).length = (numS n).cps.toList.length := rfl
    cases hc : (numS n).cps.toList with
    | nil => rw [hl, hc] at b; exact absurd b (by decide)
    | cons v r =>
      refine ⟨v, atI_nat (j := 0) rfl, ifD_f ?_ ⟨n, e, by omega, q⟩⟩
      rw [Bool.and_eq_false_iff, decide_eq_false_iff_not, decide_eq_false_iff_not]
      by_cases hv : v = 48
      · refine .inr fun z => d ⟨by rw [hc, hv]; rfl, by omega⟩
      · refine .inl fun z => hv ?_
        have := congrArg (fun z : Str => z.cps.toList) z
        have this : [v] = [48] := this
        cases this
        rfl
/-- a place's line, by its words -/
def pwords (x : Str × Int) : List Str := [("place" : Str), x.1, numS x.2]
theorem pline_join (x : Str × Int) : pline x = Txt.join (" " : Str) (pwords x) := by
  rw [join_eq]
  show pline x = ("place" : Str) ++ (" " : Str) ++ (x.1 ++ (" " : Str) ++ numS x.2)
  refine tl_inj ?_
  unfold pline
  have e : tl ("place " : Str) = tl ("place" : Str) ++ tl (" " : Str) := by rw [tl_pl, tl_sp, tl_ofString]; rfl
  rw [tl_append, tl_append, tl_append, e, tl_append, tl_append, tl_append, tl_append]
  simp only [List.append_assoc]
theorem sp_kind : ((" " : Str)).cps.all (· < 256) = true := by decide +kernel
theorem nl_kind : (("\n" : Str)).cps.all (· < 256) = true := by decide +kernel
theorem num_no {n : Int} (h0 : 0 ≤ n) (h1 : n ≤ 99) : ∀ c ∈ tl (numS n), c ≠ 32 ∧ c ≠ 10 ∧ c ≠ 45 ∧ c ≠ 58 := fun c hc => okc_no c ((num_facts h0 h1).2.2.1 c hc).2
theorem pwords_no {x : Str × Int} (hw : Wd x.1) (h0 : 0 ≤ x.2) (h1 : x.2 ≤ 99) : ∀ p ∈ pwords x, (32 : Nat) ∉ tl p ∧ (10 : Nat) ∉ tl p := fun p hp => by
  have : p = ("place" : Str) ∨ p = x.1 ∨ p = numS x.2 := by simpa [pwords] using hp
  rcases this with rfl | rfl | rfl
  · rw [tl_pl]; decide
  · exact ⟨fun h => ((wd_no hw).1 _ h).1 rfl, fun h => ((wd_no hw).1 _ h).2.1 rfl⟩
  · exact ⟨fun h => (num_no h0 h1 _ h).1 rfl, fun h => (num_no h0 h1 _ h).2.1 rfl⟩
theorem psplit {x : Str × Int} (hw : Wd x.1) (h0 : 0 ≤ x.2) (h1 : x.2 ≤ 99) : Txt.split (pline x) (" " : Str) = pwords x := by
  rw [pline_join]
  exact split_join tl_sp sp_kind (by unfold pwords; simp) fun p hp => (pwords_no hw h0 h1 p hp).1
/-- a row whose words are words -/
structure SRowW (x : SRow) : Prop extends SRowS x where
  wn : Wd x.1
  wt : ∀ y ∈ x.2.1, Wd y
  wg : ∀ y ∈ x.2.2, Wd y
  ne : x.2.1 ≠ []
theorem swords_no {x : SRow} (h : SRowW x) : ∀ p ∈ swords x, (32 : Nat) ∉ tl p ∧ (10 : Nat) ∉ tl p := fun p hp => by
  unfold swords at hp
  simp only [List.mem_cons, List.mem_append, List.not_mem_nil, or_false] at hp
  have w : ∀ {y : Str}, Wd y → (32 : Nat) ∉ tl y ∧ (10 : Nat) ∉ tl y := fun hy => ⟨fun z => ((wd_no hy).1 _ z).1 rfl, fun z => ((wd_no hy).1 _ z).2.1 rfl⟩
  rcases hp with rfl | rfl | hp | rfl | hp
  · rw [tl_st]; decide
  · rw [tl_append, tl_co]
    obtain ⟨a, b⟩ := w h.wn
    refine ⟨fun z => ?_, fun z => ?_⟩
    · rcases List.mem_append.mp z with z | z
      · exact a z
      · exact absurd z (by decide)
    · rcases List.mem_append.mp z with z | z
      · exact b z
      · exact absurd z (by decide)
  · exact w (h.wt _ hp)
  · rw [tl_ar]; decide
  · exact w (h.wg _ hp)
theorem ssplit {x : SRow} (h : SRowW x) : Txt.split (sline x) (" " : Str) = swords x := split_join tl_sp sp_kind (by unfold swords; simp) fun p hp => (swords_no h p hp).1
theorem joinL_no {S : List Nat} {c : Nat} (hS : c ∉ S) : ∀ {l : List (List Nat)}, (∀ p ∈ l, c ∉ p) → c ∉ joinL S l
  | [], _ => by simp [joinL]
  | [p], h => h p (List.mem_singleton.mpr rfl)
  | p :: q :: r, h => by
    show c ∉ p ++ (S ++ joinL S (q :: r))
    intro z
    rcases List.mem_append.mp z with z | z
    · exact h p (List.mem_cons_self ..) z
    · rcases List.mem_append.mp z with z | z
      · exact hS z
      · exact joinL_no hS (fun p hp => h p (List.mem_cons_of_mem _ hp)) z
theorem join_no {l : List Str} (h : ∀ p ∈ l, (10 : Nat) ∉ tl p) : (10 : Nat) ∉ tl (Txt.join (" " : Str) l) := by
  rw [join_eq, tl_join, tl_sp]
  exact joinL_no (by decide) fun p hp => by
    obtain ⟨z, hz, rfl⟩ := List.mem_map.mp hp
    exact h z hz
theorem lens {l : List Str} (h1 : l.length ≤ 27) (h2 : ∀ y ∈ l, y.length ≤ 13) : l.length ≤ big ∧ ∀ z ∈ l, z.length ≤ big := ⟨Nat.le_trans h1 (by decide), fun z hz => Nat.le_trans (h2 z hz) (by decide)⟩
theorem is_word_ok {z : Str} (h : Wd z) {Q : Bool → Prop} {X : HE → Prop} (q : Q true) : m_is_word z Q X := ⟨Nat.le_trans h.len (by decide), by rw [show wd z.cps.toList = true from h]; exact q⟩
theorem pwords_len {x : Str × Int} (hw : Wd x.1) (h0 : 0 ≤ x.2) (h1 : x.2 ≤ 99) : (pwords x).length ≤ 27 ∧ ∀ y ∈ pwords x, y.length ≤ 13 := ⟨by unfold pwords; show 3 ≤ 27; decide, fun y hy => by
  have : y = ("place" : Str) ∨ y = x.1 ∨ y = numS x.2 := by simpa [pwords] using hy
  rcases this with rfl | rfl | rfl
  · decide
  · have := hw.len; omega
  · have := (num_facts h0 h1).1; omega⟩
theorem read_place_ok {x : Str × Int} (hw : Wd x.1) (h0 : 0 ≤ x.2) (h1 : x.2 ≤ 99) {Q : Option (Str × Int) → Prop} {X : HE → Prop} (q : Q (some x)) : m_read_place (pline x) Q X := by
  unfold m_read_place
  have hb : big = 100000 := rfl
  rw [psplit hw h0 h1]
  obtain ⟨l1, l2⟩ := pwords_len hw h0 h1
  obtain ⟨l3, l4⟩ := lens l1 l2
  refine ⟨⟨by decide, by have := pline_len (x := x) hw.len h0 h1; omega, l3, l4⟩, fun a b c e => ?_, fun e => absurd rfl e⟩
  unfold pwords at e
  injection e with e1 e
  injection e with e2 e
  injection e with e3 _
  subst e1 e2 e3
  refine ifD_t (decide_eq_true rfl) (read_number_ok h0 h1 (andD_ok (c := true) (fun _ k hk => is_word_ok hw hk) (ifD_t rfl ⟨_, rfl, q⟩)))
theorem place_not {x : SRow} (h : SRowW x) {Q : Option (Str × Int) → Prop} {X : HE → Prop} (q : Q none) : m_read_place (sline x) Q X := by
  unfold m_read_place
  have hb : big = 100000 := rfl
  rw [ssplit h]
  obtain ⟨l1, l2⟩ := swords_len h.toSRowS
  obtain ⟨l3, l4⟩ := lens l1 l2
  refine ⟨⟨by decide, by have := (sline_len h.toSRowS).1; omega, l3, l4⟩, fun a b c e => ?_, fun e => q⟩
  unfold swords at e
  injection e with e1 e
  subst e1
  exact ifD_f (by decide) q
theorem ends_co (a : Str) : Txt.endswith (a ++ (":" : Str)) (":" : Str) = true := PySem.W.KT.ends_app a _
theorem cut_last (a : Str) : cutS (a ++ (":" : Str)) none (some (-(1 : Int))) = a := by
  refine tl_inj ?_
  show ((((a ++ (":" : Str)).cps.toList.drop (HT.sIx (a ++ (":" : Str)).length 0 none)).take (HT.sIx (a ++ (":" : Str)).length (a ++ (":" : Str)).length (some (-(1 : Int))) - HT.sIx (a ++ (":" : Str)).length 0 none)).toArray).toList = _
  have e1 : ((":" : Str)).length = 1 := by decide
  have e2 : HT.sIx (a ++ (":" : Str)).length (a ++ (":" : Str)).length (some (-(1 : Int))) = a.length := by
    rw [len_app, e1]
    unfold HT.sIx
    simp
    omega
  rw [e2, HT.sIx_none, List.drop_zero, Nat.sub_zero]
  have e3 : (a ++ (":" : Str)).cps.toList = tl a ++ tl (":" : Str) := tl_append a _
  rw [e3, show a.length = (tl a).length from len_tl a, List.take_left]
theorem ar_not {l : List Str} (h : ∀ y ∈ l, Wd y) : ("->" : Str) ∉ l := fun hm => ((wd_no (h _ hm)).1 45 (by rw [tl_ar]; decide)).2.2.1 rfl
theorem idx_app {l m : List Str} {z : Str} (h : z ∉ l) : (l ++ z :: m).idxOf z = l.length := by
  rw [List.idxOf_append, if_neg h, List.idxOf_cons_self]
  omega
theorem read_step_ok {x : SRow} (h : SRowW x) {Q : Option (Str × List Str × List Str) → Prop} {X : HE → Prop} (q : Q (some x)) : m_read_step (sline x) Q X := by
  unfold m_read_step
  have hb : big = 100000 := rfl
  rw [ssplit h]
  obtain ⟨l1, l2⟩ := swords_len h.toSRowS
  obtain ⟨l3, l4⟩ := lens l1 l2
  refine ⟨⟨by decide, by have := (sline_len h.toSRowS).1; omega, l3, l4⟩, fun a b r e => ?_, fun e => absurd e (by unfold swords; simp)⟩
  unfold swords at e
  injection e with e1 e
  injection e with e2 e
  subst e1 e2 e
  have hm : ("->" : Str) ∈ x.2.1 ++ (("->" : Str) :: (x.2.2 ++ [])) := List.mem_append_right _ (List.mem_cons_self ..)
  refine ifD_t (by rw [ends_co, decide_eq_true hm, decide_eq_true rfl]; rfl) ⟨hm, fun at6 ea => ?_⟩
  rw [idx_app (ar_not h.wt)] at ea
  subst ea
  rw [cut_last, cutX_take, show ((x.2.1.length : Nat) : Int) + 1 = ((x.2.1.length + 1 : Nat) : Int) by omega, cutX_drop, List.take_left]
  simp only [List.append_nil]
  have ed : (x.2.1 ++ (("->" : Str) :: x.2.2)).drop (x.2.1.length + 1) = x.2.2 := by
    rw [show x.2.1.length + 1 = (x.2.1 ++ [("->" : Str)]).length by rw [List.length_append]; rfl, show x.2.1 ++ (("->" : Str) :: x.2.2) = (x.2.1 ++ [("->" : Str)]) ++ x.2.2 by simp, List.drop_left]
  rw [ed]
  have h1 := h.lt
  have h2 := h.lg
  refine ⟨by rw [List.length_cons, List.length_append]; omega, fun ws ew => andD_ok (c := true) (fun _ k hk => mapD_ok (fun _ => true) (fun y hy k hk => is_word_ok ?_ hk) ?_) (ifD_t ?_ q)⟩
  · rw [ew] at hy
    rcases List.mem_cons.mp hy with rfl | hy
    · exact h.wn
    · rcases List.mem_append.mp hy with hy | hy
      · exact h.wt y hy
      · exact h.wg y hy
  · rw [List.nil_append, show (ws.map fun _ => true).all id = true from List.all_eq_true.mpr fun b hb => by
      obtain ⟨_, _, rfl⟩ := List.mem_map.mp hb
      rfl]
    exact hk
  · have := h.ne
    cases hx : x.2.1 with
    | nil => exact absurd hx this
    | cons a l => rfl
theorem line_p {x : Str × Int} (hw : Wd x.1) (h0 : 0 ≤ x.2) (h1 : x.2 ≤ 99) {Q : Option ((Str × Str × Int) ⊕ (Str × Str × (List Str) × (List Str))) → Prop} {X : HE → Prop} (q : Q (some (.inl (("place" : Str), x.1, x.2)))) : m_read_line (pline x) Q X := by
  unfold m_read_line
  exact read_place_ok hw h0 h1 ⟨(fun e => by cases e), fun y e => by cases e; exact q⟩
theorem line_s {x : SRow} (h : SRowW x) {Q : Option ((Str × Str × Int) ⊕ (Str × Str × (List Str) × (List Str))) → Prop} {X : HE → Prop} (q : Q (some (.inr (("step" : Str), x.1, x.2.1, x.2.2)))) : m_read_line (sline x) Q X := by
  unfold m_read_line
  exact place_not h ⟨fun _ => read_step_ok h ⟨(fun e => by cases e), fun y e => by cases e; exact q⟩, (fun y e => by cases e)⟩
theorem lines_no {prs : List (Str × Int)} {srs : List SRow} (hp : ∀ x ∈ prs, Wd x.1 ∧ 0 ≤ x.2 ∧ x.2 ≤ 99) (hs : ∀ x ∈ srs, SRowW x) : ∀ p ∈ linesOf prs srs, (10 : Nat) ∉ tl p := fun p hp2 => by
  rcases List.mem_append.mp hp2 with q | q
  · obtain ⟨x, hx, rfl⟩ := List.mem_map.mp q
    rw [pline_join]
    exact join_no fun p hpp => (pwords_no (hp x hx).1 (hp x hx).2.1 (hp x hx).2.2 p hpp).2
  · obtain ⟨x, hx, rfl⟩ := List.mem_map.mp q
    exact join_no fun p hpp => (swords_no (hs x hx) p hpp).2
theorem lines_split {prs : List (Str × Int)} {srs : List SRow} (hp : ∀ x ∈ prs, Wd x.1 ∧ 0 ≤ x.2 ∧ x.2 ≤ 99) (hs : ∀ x ∈ srs, SRowW x) (hne : linesOf prs srs ≠ []) : Txt.split (Txt.join ("\n" : Str) (linesOf prs srs)) ("\n" : Str) = linesOf prs srs := split_join tl_nl nl_kind hne (lines_no hp hs)
theorem lines_len {prs : List (Str × Int)} {srs : List SRow} (hp : ∀ x ∈ prs, Wd x.1 ∧ 0 ≤ x.2 ∧ x.2 ≤ 99) (hs : ∀ x ∈ srs, SRowW x) (lp : prs.length ≤ 12) (ls : srs.length ≤ 16) : (linesOf prs srs).length ≤ 28 ∧ (∀ z ∈ linesOf prs srs, z.length ≤ 400) ∧ ((linesOf prs srs).map (·.length)).sum ≤ 400 * 28 := by
  have h1 : (linesOf prs srs).length ≤ 28 := by
    unfold linesOf
    rw [List.length_append, List.length_map, List.length_map]
    omega
  have h2 : ∀ z ∈ linesOf prs srs, z.length ≤ 400 := fun z hz => by
    rcases List.mem_append.mp hz with q | q
    · obtain ⟨x, hx, rfl⟩ := List.mem_map.mp q
      have := pline_len (x := x) (hp x hx).1.len (hp x hx).2.1 (hp x hx).2.2
      omega
    · obtain ⟨x, hx, rfl⟩ := List.mem_map.mp q
      exact (sline_len (hs x hx).toSRowS).1
  have h3 := sum_le h2
  refine ⟨h1, h2, Nat.le_trans h3 (Nat.mul_le_mul_left _ h1)⟩
theorem sum_cond {prs : List (Str × Int)} {srs : List SRow} (hp : ∀ x ∈ prs, Wd x.1 ∧ 0 ≤ x.2 ∧ x.2 ≤ 99) (hs : ∀ x ∈ srs, SRowW x) (lp : prs.length ≤ 12) (ls : srs.length ≤ 16) : ((linesOf prs srs).map (·.length)).sum + (linesOf prs srs).length * (("\n" : Str)).length ≤ big := by
  obtain ⟨h1, _, h3⟩ := lines_len hp hs lp ls
  have e2 : (("\n" : Str)).length = 1 := by decide
  have hb : big = 100000 := rfl
  rw [e2]
  omega
theorem join_pos {l : List Str} {a : Str} (ha : 0 < a.length) (h : l.head? = some a) : 0 < (Txt.join ("\n" : Str) l).length := by
  rw [join_eq]
  match l, h with
  | [b], h =>
    cases h
    exact ha
  | b :: c :: r, h =>
    cases h
    show 0 < (a ++ ("\n" : Str) ++ Str.join ("\n" : Str) (c :: r)).length
    rw [len_app, len_app]
    omega
theorem mk_ok {prs : List (Str × Int)} {srs : List SRow} (ok : OkRows prs srs) {Q : PlanD → Prop} {X : HE → Prop} (h : Q (planOf prs srs)) : mk_Plan prs srs Q X := ⟨ok.B, fun _ => h, fun y hy => by rw [ok.due] at hy; cases hy⟩
theorem OkRows.pp {prs : List (Str × Int)} {srs : List SRow} (ok : OkRows prs srs) : ∀ x ∈ prs, Wd x.1 ∧ 0 ≤ x.2 ∧ x.2 ≤ 99 := ok.pw
theorem OkRows.ss {prs : List (Str × Int)} {srs : List SRow} (ok : OkRows prs srs) : ∀ x ∈ srs, SRowW x := fun x hx => by
  obtain ⟨a0, a1, a2, a3, a4, a5⟩ := ok.sw x hx
  have w : ∀ y ∈ prs.map (·.1), Wd y := fun y hy => by
    obtain ⟨r, hr, rfl⟩ := List.mem_map.mp hy
    exact (ok.pw r hr).1
  exact { n := a0.len, t := fun y hy => (w y (a3 y hy)).len, g := fun y hy => (w y (a5 y hy)).len, lt := ok.len a2 a3, lg := ok.len a4 a5, wn := a0, wt := fun y hy => w y (a3 y hy), wg := fun y hy => w y (a5 y hy), ne := a1 }
theorem read_rows {prs : List (Str × Int)} {srs : List SRow} (ok : OkRows prs srs) {Q : PlanD → Prop} {X : HE → Prop} (h : Q (planOf prs srs)) : forD (enS (1) (linesOf prs srs)) (([], []) : List (Str × Int) × List SRow) (fun x7 s6 nx bk =>
  m_read_line x7.2 (fun v9 =>
  orD ((v9).isNone) (fun k11 => ∃ zv12 : ((Str × Str × Int) ⊕ (Str × Str × (List Str) × (List Str))), v9 = (some zv12) ∧
  k11 ((decide ((uFst zv12) = ("place" : Str))) && (!(s6.2).isEmpty))) (fun c10 =>
  ifD c10 (
  X (.badText x7.1)) (
  ∃ row13 : ((Str × Str × Int) ⊕ (Str × Str × (List Str) × (List Str))), v9 = (some row13) ∧
  ifD (decide ((uFst row13) = ("place" : Str))) (
  ∃ row14 : (Str × Str × Int), row13 = (.inl row14) ∧
  (s6.1).length < big ∧
  nx ((s6.1 ++ [(row14).2]), s6.2)) (
  ∃ row16 : (Str × Str × (List Str) × (List Str)), row13 = (.inr row16) ∧
  (s6.2).length < big ∧
  nx (s6.1, (s6.2 ++ [(row16).2])))))) noX) (fun s6 =>
  mk_Plan s6.1 s6.2 (fun v18 =>
  Q v18) X) := by
  have hb : big = 100000 := rfl
  have p12 := ok.p12
  have s16 := ok.s16
  have gen : ∀ (ps ps2 : List (Str × Int)) (ss ss2 : List SRow) (i : Nat), prs = ps2 ++ ps → srs = ss2 ++ ss → (ps ≠ [] → ss2 = []) → forD (((linesOf ps ss).zipIdx i).map fun p => ((1 : Int) + ((p.2 : Nat) : Int), p.1)) ((ps2, ss2) : List (Str × Int) × List SRow) (fun x7 s6 nx bk =>
  m_read_line x7.2 (fun v9 =>
  orD ((v9).isNone) (fun k11 => ∃ zv12 : ((Str × Str × Int) ⊕ (Str × Str × (List Str) × (List Str))), v9 = (some zv12) ∧
  k11 ((decide ((uFst zv12) = ("place" : Str))) && (!(s6.2).isEmpty))) (fun c10 =>
  ifD c10 (
  X (.badText x7.1)) (
  ∃ row13 : ((Str × Str × Int) ⊕ (Str × Str × (List Str) × (List Str))), v9 = (some row13) ∧
  ifD (decide ((uFst row13) = ("place" : Str))) (
  ∃ row14 : (Str × Str × Int), row13 = (.inl row14) ∧
  (s6.1).length < big ∧
  nx ((s6.1 ++ [(row14).2]), s6.2)) (
  ∃ row16 : (Str × Str × (List Str) × (List Str)), row13 = (.inr row16) ∧
  (s6.2).length < big ∧
  nx (s6.1, (s6.2 ++ [(row16).2])))))) noX) (fun s6 =>
  mk_Plan s6.1 s6.2 (fun v18 =>
  Q v18) X) := by
    intro ps
    induction ps with
    | nil =>
      intro ps2 ss
      induction ss with
      | nil =>
        intro ss2 i e1 e2 _
        rw [List.append_nil] at e1 e2
        subst e1 e2
        exact mk_ok ok h
      | cons x ss ih =>
        intro ss2 i e1 e2 _
        have hx := ok.ss x (by rw [e2]; simp)
        have hl : ss2.length < 16 := by
          have := congrArg List.length e2
          rw [List.length_append, List.length_cons] at this
          omega
        show forD (((sline x :: linesOf [] ss).zipIdx i).map _) _ _ _
        rw [List.zipIdx_cons, List.map_cons]
        unfold forD
        refine line_s hx (orD_ok (c := false) (fun _ k hk => ⟨_, rfl, by rw [show decide ((uFst ((.inr (("step" : Str), x.1, x.2.1, x.2.2)) : ((Str × Str × Int) ⊕ (Str × Str × (List Str) × (List Str))))) = ("place" : Str)) = false from (by decide : decide ((("step" : Str)) = ("place" : Str)) = false)]; exact hk⟩) (ifD_f rfl ⟨_, rfl, ifD_f (by decide : decide ((("step" : Str)) = ("place" : Str)) = false) ⟨_, rfl, by show ss2.length < big; omega, ?_⟩⟩))
        exact ih (ss2 ++ [x]) (i + 1) e1 (by rw [e2]; simp) (fun q => absurd rfl q)
    | cons x ps ih =>
      intro ps2 ss ss2 i e1 e2 e3
      have hx := ok.pp x (by rw [e1]; simp)
      have es : ss2 = [] := e3 (by simp)
      subst es
      have hl : ps2.length < 12 := by
        have := congrArg List.length e1
        rw [List.length_append, List.length_cons] at this
        omega
      show forD (((pline x :: linesOf ps ss).zipIdx i).map _) _ _ _
      rw [List.zipIdx_cons, List.map_cons]
      unfold forD
      refine line_p hx.1 hx.2.1 hx.2.2 (orD_ok (c := false) (fun _ k hk => ⟨_, rfl, by rw [show (!(([] : List SRow)).isEmpty) = false from rfl, Bool.and_false]; exact hk⟩) (ifD_f rfl ⟨_, rfl, ifD_t (decide_eq_true rfl) ⟨_, rfl, by show ps2.length < big; omega, ?_⟩⟩))
      exact ih (ps2 ++ [x]) ss [] (i + 1) (by rw [e1]; simp) e2 (fun _ => rfl)
  exact gen prs [] srs [] 0 rfl rfl (fun _ => rfl)
theorem read_plan_ok {prs : List (Str × Int)} {srs : List SRow} (ok : OkRows prs srs) (hz : prs = [] → srs = []) {Q : PlanD → Prop} {X : HE → Prop} (h : Q (planOf prs srs)) : m_read_plan (Txt.join ("\n" : Str) (linesOf prs srs)) Q X := by
  unfold m_read_plan
  refine joinI ?_
  by_cases e : prs = []
  · have e2 := hz e
    subst e e2
    exact ifD_f (by decide) (read_rows ok h)
  · have hne : linesOf prs srs ≠ [] := fun q => e (List.map_eq_nil_iff.mp (List.append_eq_nil_iff.mp q).1)
    obtain ⟨h1, h2, h3⟩ := lines_len ok.pp ok.ss ok.p12 ok.s16
    have hb : big = 100000 := rfl
    have e2 : (("\n" : Str)).length = 1 := by decide
    have hpos : 0 < (Txt.join ("\n" : Str) (linesOf prs srs)).length := by
      cases prs with
      | nil => exact absurd rfl e
      | cons x ps =>
        refine join_pos (a := pline x) ?_ rfl
        have e6 : (("place " : Str)).length = 6 := by decide
        unfold pline
        rw [len_app, len_app, len_app, e6]
        omega
    have hlen := join_len_le ("\n" : Str) (linesOf prs srs)
    rw [e2] at hlen
    refine ifD_t (by rw [bne_iff_ne]; omega) ?_
    rw [lines_split ok.pp ok.ss hne]
    exact ⟨⟨by decide, by omega, by omega, fun z hz => Nat.le_trans (h2 z hz) (by decide)⟩, read_rows ok h⟩
end
section
theorem none_rows {prs : List (Str × Int)} {srs : List SRow} (ok : OkRows prs srs) (h : prs = []) : srs = [] := by
  subst h
  cases srs with
  | nil => rfl
  | cons x l =>
    obtain ⟨a0, a1, a2, a3, a4, a5⟩ := ok.sw x (List.mem_cons_self ..)
    cases hx : x.2.1 with
    | nil => exact absurd hx a1
    | cons y r =>
      have := a3 y (by rw [hx]; exact List.mem_cons_self ..)
      cases this
theorem inOrd_mem {ps l : List Str} (h : ∀ y ∈ l, y ∈ ps) (y : Str) : y ∈ inOrd ps l ↔ y ∈ l := ⟨fun q => (inOrd_sub q).2, fun q => List.mem_filter.mpr ⟨h y q, decide_eq_true q⟩⟩
theorem inOrd_nd {prs : List (Str × Int)} {l : List Str} (h : (prs.map (·.1)).Nodup) : (inOrd (prs.map (·.1)) l).Nodup := by
  unfold inOrd
  exact List.filter_sublist.nodup h
theorem OkRows.ord {prs : List (Str × Int)} {srs : List SRow} (ok : OkRows prs srs) : OkRows prs (planOf prs srs).steps ∧ planOf prs (planOf prs srs).steps = planOf prs srs := by
  have en : (planOf prs srs).steps.map (·.1) = srs.map (·.1) := by
    show (srs.map fun s => (s.1, inOrd (prs.map (·.1)) s.2.1, inOrd (prs.map (·.1)) s.2.2)).map (·.1) = _
    rw [List.map_map]
    rfl
  refine ⟨⟨ok.pw, ok.pn, fun r hr => ?_, by rw [en]; exact ok.sn, ok.p12, by show (srs.map _).length ≤ 16; rw [List.length_map]; exact ok.s16⟩, ?_⟩
  · obtain ⟨q, hq, rfl⟩ := List.mem_map.mp hr
    obtain ⟨a0, a1, a2, a3, a4, a5⟩ := ok.sw q hq
    refine ⟨a0, fun z => ?_, inOrd_nd ok.pn, fun y hy => (inOrd_sub hy).1, inOrd_nd ok.pn, fun y hy => (inOrd_sub hy).1⟩
    obtain ⟨y, hy⟩ := List.exists_mem_of_ne_nil _ a1
    have hm := (inOrd_mem a3 y).mpr hy
    have z : inOrd (prs.map (·.1)) q.2.1 = [] := z
    rw [z] at hm
    cases hm
  · unfold planOf
    congr 1
    rw [List.map_map]
    refine List.map_congr_left fun s hs => ?_
    obtain ⟨a0, a1, a2, a3, a4, a5⟩ := ok.sw s hs
    show (s.1, inOrd (prs.map (·.1)) (inOrd (prs.map (·.1)) s.2.1), inOrd (prs.map (·.1)) (inOrd (prs.map (·.1)) s.2.2)) = _
    rw [inOrd_congr' (inOrd_mem a3), inOrd_congr' (inOrd_mem a5)]
theorem rows_right_ok {prs : List (Str × Int)} {srs : List SRow} (ok : OkRows prs srs) {Q : Bool → Prop} {X : HE → Prop} (h : Q true) : m__law_rows_right (planOf prs srs) (prs, srs) Q X := by
  unfold m__law_rows_right
  have pk : PlanOk (planOf prs srs) := planDue_ok ok.due
  refine orderly_ok ok.s16 (place_rows_ok (prs := prs) rfl rfl (ifD_f ?_ (step_rows_ok pk ?_)))
  · rw [show (prs.map fun x3 => (x3.1, x3.2)) = prs from List.map_id' _, decide_eq_true rfl]
    rfl
  · rw [show ((planOf prs srs).steps.map fun x6 => (x6.1, x6.2.1, x6.2.2)) = (planOf prs srs).steps from List.map_id' _, decide_eq_true rfl]
    exact h
theorem eq_begin {d e : PlanD} (h : d.begin ≠ e.begin) {Q : Bool → Prop} {X : HE → Prop} (q : Q false) : m_Plan___eq__ d e Q X := by
  unfold m_Plan___eq__
  exact ifD_f rfl (ifD_t (by rw [decide_eq_false h, Bool.or_eq_true]; exact .inr rfl) q)
theorem set_map {α β : Type} (f : α → β) : ∀ {l : List α} {m : Nat} {x y : α}, l[m]? = some x → f y = f x → (l.set m y).map f = l.map f
  | [], _, _, _, h, _ => by cases h
  | a :: l, 0, x, y, h, e => by
    cases h
    show f y :: l.map f = f a :: l.map f
    rw [e]
  | a :: l, m + 1, x, y, h, e => by
    show f a :: (l.set m y).map f = f a :: l.map f
    rw [set_map f (l := l) (m := m) h e]
theorem fmod100 {n : Int} (h0 : 0 ≤ n) (h1 : n ≤ 99) : 0 ≤ Int.fmod (n + 1) 100 ∧ Int.fmod (n + 1) 100 ≤ 99 ∧ Int.fmod (n + 1) 100 ≠ n := by
  rw [Int.fmod_eq_emod_of_nonneg _ (by decide)]
  omega
theorem OkRows.changed {prs : List (Str × Int)} {srs : List SRow} (ok : OkRows prs srs) {m : Nat} {w : Str} {n n2 : Int} (h : prs[m]? = some (w, n)) (h0 : 0 ≤ n2) (h1 : n2 ≤ 99) : OkRows (prs.set m (w, n2)) srs := by
  have e : (prs.set m (w, n2)).map (·.1) = prs.map (·.1) := set_map (y := (w, n2)) (·.1) h rfl
  refine ⟨fun r hr => ?_, by rw [e]; exact ok.pn, by rw [e]; exact ok.sw, ok.sn, by rw [List.length_set]; exact ok.p12, ok.s16⟩
  rcases List.mem_or_eq_of_mem_set hr with q | q
  · exact ok.pw r q
  · rw [q]
    exact ⟨(ok.pw _ (List.mem_of_getElem? h)).1, h0, h1⟩
theorem lns_ok {prs : List (Str × Int)} {srs : List SRow} (ok : OkRows prs srs) {Q : List Str → Prop} {X : HE → Prop} (h : Q (linesOf prs srs)) : m__law_lines (prs, srs) Q X := lines_ok (fun x hx => ⟨(ok.pw x hx).1.len, (ok.pw x hx).2⟩) (fun x hx => (ok.ss x hx).toSRowS) ok.p12 ok.s16 h
theorem wr_ok {prs : List (Str × Int)} {srs : List SRow} (ok : OkRows prs srs) {Q : Str → Prop} {X : HE → Prop} (h : Q (Txt.join ("\n" : Str) (linesOf prs (planOf prs srs).steps))) : m_write_plan (planOf prs srs) Q X := write_ok (planDue_ok ok.due) rfl rfl ok.short h
theorem law_pure : m_law (· = true) noX := by
  unfold m_law
  refine draw_ok (by decide) (by decide) fun a ha => draw_ok (by decide) (by decide) fun b hb => ?_
  refine any_ok (by omega) (by omega) fun prs srs ok hpl hsl => ?_
  refine mapD_inv (fun (x y : SRow) => y.1 = x.1 ∧ y.2.1.Perm x.2.1 ∧ y.2.2.Perm x.2.2) (fun x hx k hk => ?_) fun trs htr => ?_
  · obtain ⟨a0, a1, a2, a3, a4, a5⟩ := ok.sw x hx
    have l1 := ok.len a2 a3
    have l2 := ok.len a4 a5
    exact mixed_ok (by omega) fun r1 p1 => mixed_ok (by omega) fun r2 p2 => hk _ ⟨rfl, p1, p2⟩
  rw [List.nil_append]
  obtain ⟨ok2, ep⟩ := ok.turned htr
  obtain ⟨ok3, eo⟩ := ok.ord
  have pk : PlanOk (planOf prs srs) := planDue_ok ok.due
  intro turned ht
  rw [ht]
  refine lns_ok ok2 ⟨sum_cond ok2.pp ok2.ss ok2.p12 ok2.s16, read_plan_ok ok2 (none_rows ok2) ?_⟩
  rw [ep]
  refine orD_ok (c := false) (fun _ k hk => plan_ok ok (eq_self pk (orD_ok (c := false) (fun _ k hk2 => rows_right_ok ok hk2) hk))) (ifD_f rfl ?_)
  refine orderly_ok ok.s16 (lns_ok ok3 ⟨sum_cond ok3.pp ok3.ss ok3.p12 ok3.s16, fun text et => ?_⟩)
  refine wr_ok ok (orD_ok (c := false) (fun _ k hk => ?_) (ifD_f ?_ ⟨fun hz => ?_, fun hz => ?_⟩))
  · rw [et]
    refine read_plan_ok ok3 (none_rows ok3) ?_
    rw [eo]
    exact eq_self pk hk
  · rw [et, decide_eq_true rfl]
    rfl
  · have hz : prs = [] := of_decide_eq_true hz
    have es := none_rows ok hz
    subst hz
    subst es
    rw [et]
    decide
  · have hz := of_decide_eq_false hz
    have p12 := ok.p12
    have lp : 0 < prs.length := pos_of_ne hz
    have lp2 : (0 : Int) < (prs.length : Int) := by omega
    refine draw_ok lp2 (show (prs.length : Int) ≤ _ from Int.le_trans (show (prs.length : Int) ≤ 1000 by omega) (by decide)) fun i hi => ?_
    have hi : i < prs.length := by have hi : (i : Int) < (prs.length : Int) := hi; omega
    have lq : (prs, srs).1.length = prs.length := rfl
    have hrow : prs[i]? = some ((prs[i]).1, (prs[i]).2) := List.getElem?_eq_getElem hi
    refine ⟨i, ixN_nat hi, _, hrow, ok.pn, ?_⟩
    generalize (prs[i]).1 = w at hrow
    generalize (prs[i]).2 = n at hrow
    obtain ⟨_, n0, n1⟩ := ok.pw _ (List.mem_of_getElem? hrow)
    obtain ⟨f0, f1, f2⟩ := fmod100 n0 n1
    dsimp only
    generalize Int.fmod (n + 1) 100 = n2 at f0 f1 f2
    have ok4 := ok.changed hrow f0 f1
    refine lns_ok ok4 ⟨sum_cond ok4.pp ok4.ss ok4.p12 ok4.s16, read_plan_ok ok4 (none_rows ok4) ?_⟩
    have at2 : (prs.set i (w, n2))[i]? = some (w, n2) := by rw [List.getElem?_set_self hi]
    refine eq_begin (fun q => f2 ?_) (andD_ok (c := true) (fun _ k hk => rows_right_ok ok4 (andD_ok (c := true) (fun _ k hk2 => wr_ok ok4 ?_) hk)) rfl)
    · have q : (prs.set i (w, n2)).map (·.2) = prs.map (·.2) := q
      have := congrArg (fun l : List Int => l[i]?) q
      have this : ((prs.set i (w, n2)).map (·.2))[i]? = (prs.map (·.2))[i]? := this
      rw [List.getElem?_map, List.getElem?_map, at2, hrow] at this
      cases this
      rfl
    · rw [et, decide_eq_false ?_]
      · exact hk2
      · intro q
        obtain ⟨ok5, _⟩ := ok4.ord
        have ne : ∀ {ps : List (Str × Int)} {ss : List SRow}, 0 < ps.length → linesOf ps ss ≠ [] := fun {ps ss} h z => by
          have := List.map_eq_nil_iff.mp (List.append_eq_nil_iff.mp z).1
          rw [this] at h
          exact absurd h (by decide)
        have s1 := lines_split ok5.pp ok5.ss (ne (by rw [List.length_set]; exact lp))
        have s2 := lines_split ok3.pp ok3.ss (ne lp)
        rw [q, s2] at s1
        have g := congrArg (fun l : List Str => l[i]?) s1
        unfold linesOf at g
        rw [List.getElem?_append_left (by rw [List.length_map]; exact hi), List.getElem?_append_left (by rw [List.length_map, List.length_set]; exact hi), List.getElem?_map, List.getElem?_map, at2, hrow] at g
        have g : pline (w, n) = pline (w, n2) := Option.some.inj g
        unfold pline at g
        have g := str_app_inj g
        obtain ⟨k, rfl⟩ : ∃ k : Nat, n = k := ⟨n.toNat, by omega⟩
        obtain ⟨k2, rfl⟩ : ∃ k : Nat, n2 = k := ⟨n2.toNat, by omega⟩
        exact f2 (by rw [num_inj g])
end
theorem all_mk {P : Program} {w : World} {K : PySem.W.Frag} {h : Heap} {mg : Str → Option Value} {fa : Addr} (X : K.In h) (G : h.Ns mainGlobals mg) (hfa : mg "law" = some (.ref fa)) (top : (P.main.scope.names.lookup ("super" : Str)).isSome = false)
    {t_LETTERS : Tok}
    {t_DIGITS : Tok}
    {t_MOST_SIGNS : Tok}
    {t_MOST_PLACES : Tok}
    {t_MOST_STEPS : Tok}
    {t_MOST_BEGIN : Tok}
    {t_LONGEST : Tok}
    {t_DIGITS_texts : Tok}
    {f__law_bag : Addr} {od__law_bag an__law_bag : Option Addr} {sl__law_bag : Array (Option Value)} {oc__law_bag kV__law_bag dc__law_bag pm__law_bag cd__law_bag ct__law_bag : Value}
    {f__law_draw : Addr} {od__law_draw an__law_draw : Option Addr} {sl__law_draw : Array (Option Value)} {oc__law_draw kV__law_draw dc__law_draw pm__law_draw cd__law_draw ct__law_draw : Value}
    {f_is_word : Addr} {od_is_word an_is_word : Option Addr} {sl_is_word : Array (Option Value)} {oc_is_word kV_is_word dc_is_word pm_is_word cd_is_word ct_is_word : Value}
    {f_check_word : Addr} {od_check_word an_check_word : Option Addr} {sl_check_word : Array (Option Value)} {oc_check_word kV_check_word dc_check_word pm_check_word cd_check_word ct_check_word : Value}
    {f_check_number : Addr} {od_check_number an_check_number : Option Addr} {sl_check_number : Array (Option Value)} {oc_check_number kV_check_number dc_check_number pm_check_number cd_check_number ct_check_number : Value}
    {f_check_names : Addr} {od_check_names an_check_names : Option Addr} {sl_check_names : Array (Option Value)} {oc_check_names kV_check_names dc_check_names pm_check_names cd_check_names ct_check_names : Value}
    {f_in_order : Addr} {od_in_order an_in_order : Option Addr} {sl_in_order : Array (Option Value)} {oc_in_order kV_in_order dc_in_order pm_in_order cd_in_order ct_in_order : Value}
    {f__law_word : Addr} {od__law_word an__law_word : Option Addr} {sl__law_word : Array (Option Value)} {oc__law_word kV__law_word dc__law_word pm__law_word cd__law_word ct__law_word : Value}
    {f__law_subset : Addr} {od__law_subset an__law_subset : Option Addr} {sl__law_subset : Array (Option Value)} {oc__law_subset kV__law_subset dc__law_subset pm__law_subset cd__law_subset ct__law_subset : Value}
    {f__law_any : Addr} {od__law_any an__law_any : Option Addr} {sl__law_any : Array (Option Value)} {oc__law_any kV__law_any dc__law_any pm__law_any cd__law_any ct__law_any : Value}
    {f_read_number : Addr} {od_read_number an_read_number : Option Addr} {sl_read_number : Array (Option Value)} {oc_read_number kV_read_number dc_read_number pm_read_number cd_read_number ct_read_number : Value}
    {f_read_place : Addr} {od_read_place an_read_place : Option Addr} {sl_read_place : Array (Option Value)} {oc_read_place kV_read_place dc_read_place pm_read_place cd_read_place ct_read_place : Value}
    {f_read_step : Addr} {od_read_step an_read_step : Option Addr} {sl_read_step : Array (Option Value)} {oc_read_step kV_read_step dc_read_step pm_read_step cd_read_step ct_read_step : Value}
    {f_read_line : Addr} {od_read_line an_read_line : Option Addr} {sl_read_line : Array (Option Value)} {oc_read_line kV_read_line dc_read_line pm_read_line cd_read_line ct_read_line : Value}
    {f_place_line : Addr} {od_place_line an_place_line : Option Addr} {sl_place_line : Array (Option Value)} {oc_place_line kV_place_line dc_place_line pm_place_line cd_place_line ct_place_line : Value}
    {f_step_line : Addr} {od_step_line an_step_line : Option Addr} {sl_step_line : Array (Option Value)} {oc_step_line kV_step_line dc_step_line pm_step_line cd_step_line ct_step_line : Value}
    {f_write_plan : Addr} {od_write_plan an_write_plan : Option Addr} {sl_write_plan : Array (Option Value)} {oc_write_plan kV_write_plan dc_write_plan pm_write_plan cd_write_plan ct_write_plan : Value}
    {f_read_plan : Addr} {od_read_plan an_read_plan : Option Addr} {sl_read_plan : Array (Option Value)} {oc_read_plan kV_read_plan dc_read_plan pm_read_plan cd_read_plan ct_read_plan : Value}
    {f__law_mixed : Addr} {od__law_mixed an__law_mixed : Option Addr} {sl__law_mixed : Array (Option Value)} {oc__law_mixed kV__law_mixed dc__law_mixed pm__law_mixed cd__law_mixed ct__law_mixed : Value}
    {f__law_plan : Addr} {od__law_plan an__law_plan : Option Addr} {sl__law_plan : Array (Option Value)} {oc__law_plan kV__law_plan dc__law_plan pm__law_plan cd__law_plan ct__law_plan : Value}
    {f__law_lines : Addr} {od__law_lines an__law_lines : Option Addr} {sl__law_lines : Array (Option Value)} {oc__law_lines kV__law_lines dc__law_lines pm__law_lines cd__law_lines ct__law_lines : Value}
    {f__law_orderly : Addr} {od__law_orderly an__law_orderly : Option Addr} {sl__law_orderly : Array (Option Value)} {oc__law_orderly kV__law_orderly dc__law_orderly pm__law_orderly cd__law_orderly ct__law_orderly : Value}
    {f__law_rows_right : Addr} {od__law_rows_right an__law_rows_right : Option Addr} {sl__law_rows_right : Array (Option Value)} {oc__law_rows_right kV__law_rows_right dc__law_rows_right pm__law_rows_right cd__law_rows_right ct__law_rows_right : Value}
    {f_law : Addr} {od_law an_law : Option Addr} {sl_law : Array (Option Value)} {oc_law kV_law dc_law pm_law cd_law ct_law : Value}
    {C_TooMany fI_TooMany N_TooMany cda_TooMany cc_TooMany : Addr} {nm_TooMany q_TooMany file_TooMany : Str} {bs_TooMany bm_TooMany sub_TooMany : List Value} {sn_TooMany : List Str} {ab_TooMany : Bool} {col_TooMany : Option Bool} {dd_TooMany od_TooMany an_TooMany cdd_TooMany cld_TooMany : Option Addr} {m0_TooMany m1_TooMany m2_TooMany m3_TooMany m5_TooMany : Option Value} {oc_TooMany kV_TooMany dc_TooMany pm_TooMany ct_TooMany ccl_TooMany cl_TooMany : Value} {sl_TooMany ccs_TooMany csl_TooMany : Array (Option Value)} {vs_TooMany : Array Value} {tf_TooMany : Tok}
    {C_BadWord fI_BadWord N_BadWord cda_BadWord cc_BadWord : Addr} {nm_BadWord q_BadWord file_BadWord : Str} {bs_BadWord bm_BadWord sub_BadWord : List Value} {sn_BadWord : List Str} {ab_BadWord : Bool} {col_BadWord : Option Bool} {dd_BadWord od_BadWord an_BadWord cdd_BadWord cld_BadWord : Option Addr} {m0_BadWord m1_BadWord m2_BadWord m3_BadWord m5_BadWord : Option Value} {oc_BadWord kV_BadWord dc_BadWord pm_BadWord ct_BadWord ccl_BadWord cl_BadWord : Value} {sl_BadWord ccs_BadWord csl_BadWord : Array (Option Value)} {vs_BadWord : Array Value} {tf_BadWord : Tok}
    {C_DoubleName fI_DoubleName N_DoubleName cda_DoubleName cc_DoubleName : Addr} {nm_DoubleName q_DoubleName file_DoubleName : Str} {bs_DoubleName bm_DoubleName sub_DoubleName : List Value} {sn_DoubleName : List Str} {ab_DoubleName : Bool} {col_DoubleName : Option Bool} {dd_DoubleName od_DoubleName an_DoubleName cdd_DoubleName cld_DoubleName : Option Addr} {m0_DoubleName m1_DoubleName m2_DoubleName m3_DoubleName m5_DoubleName : Option Value} {oc_DoubleName kV_DoubleName dc_DoubleName pm_DoubleName ct_DoubleName ccl_DoubleName cl_DoubleName : Value} {sl_DoubleName ccs_DoubleName csl_DoubleName : Array (Option Value)} {vs_DoubleName : Array Value} {tf_DoubleName : Tok}
    {C_BadNumber fI_BadNumber N_BadNumber cda_BadNumber cc_BadNumber : Addr} {nm_BadNumber q_BadNumber file_BadNumber : Str} {bs_BadNumber bm_BadNumber sub_BadNumber : List Value} {sn_BadNumber : List Str} {ab_BadNumber : Bool} {col_BadNumber : Option Bool} {dd_BadNumber od_BadNumber an_BadNumber cdd_BadNumber cld_BadNumber : Option Addr} {m0_BadNumber m1_BadNumber m2_BadNumber m3_BadNumber m5_BadNumber : Option Value} {oc_BadNumber kV_BadNumber dc_BadNumber pm_BadNumber ct_BadNumber ccl_BadNumber cl_BadNumber : Value} {sl_BadNumber ccs_BadNumber csl_BadNumber : Array (Option Value)} {vs_BadNumber : Array Value} {tf_BadNumber : Tok}
    {C_EmptyStep fI_EmptyStep N_EmptyStep cda_EmptyStep cc_EmptyStep : Addr} {nm_EmptyStep q_EmptyStep file_EmptyStep : Str} {bs_EmptyStep bm_EmptyStep sub_EmptyStep : List Value} {sn_EmptyStep : List Str} {ab_EmptyStep : Bool} {col_EmptyStep : Option Bool} {dd_EmptyStep od_EmptyStep an_EmptyStep cdd_EmptyStep cld_EmptyStep : Option Addr} {m0_EmptyStep m1_EmptyStep m2_EmptyStep m3_EmptyStep m5_EmptyStep : Option Value} {oc_EmptyStep kV_EmptyStep dc_EmptyStep pm_EmptyStep ct_EmptyStep ccl_EmptyStep cl_EmptyStep : Value} {sl_EmptyStep ccs_EmptyStep csl_EmptyStep : Array (Option Value)} {vs_EmptyStep : Array Value} {tf_EmptyStep : Tok}
    {C_UnknownName fI_UnknownName N_UnknownName cda_UnknownName cc_UnknownName : Addr} {nm_UnknownName q_UnknownName file_UnknownName : Str} {bs_UnknownName bm_UnknownName sub_UnknownName : List Value} {sn_UnknownName : List Str} {ab_UnknownName : Bool} {col_UnknownName : Option Bool} {dd_UnknownName od_UnknownName an_UnknownName cdd_UnknownName cld_UnknownName : Option Addr} {m0_UnknownName m1_UnknownName m2_UnknownName m3_UnknownName m5_UnknownName : Option Value} {oc_UnknownName kV_UnknownName dc_UnknownName pm_UnknownName ct_UnknownName ccl_UnknownName cl_UnknownName : Value} {sl_UnknownName ccs_UnknownName csl_UnknownName : Array (Option Value)} {vs_UnknownName : Array Value} {tf_UnknownName : Tok}
    {C_BadText fI_BadText N_BadText cda_BadText cc_BadText : Addr} {nm_BadText q_BadText file_BadText : Str} {bs_BadText bm_BadText sub_BadText : List Value} {sn_BadText : List Str} {ab_BadText : Bool} {col_BadText : Option Bool} {dd_BadText od_BadText an_BadText cdd_BadText cld_BadText : Option Addr} {m0_BadText m1_BadText m2_BadText m3_BadText m5_BadText : Option Value} {oc_BadText kV_BadText dc_BadText pm_BadText ct_BadText ccl_BadText cl_BadText : Value} {sl_BadText ccs_BadText csl_BadText : Array (Option Value)} {vs_BadText : Array Value} {tf_BadText : Tok}
    {C_Plan : Addr}
    {f_Plan___init__ : Addr} {od_Plan___init__ an_Plan___init__ : Option Addr} {sl_Plan___init__ : Array (Option Value)} {oc_Plan___init__ kV_Plan___init__ dc_Plan___init__ pm_Plan___init__ cd_Plan___init__ ct_Plan___init__ : Value}
    {f_Plan_put_step : Addr} {od_Plan_put_step an_Plan_put_step : Option Addr} {sl_Plan_put_step : Array (Option Value)} {oc_Plan_put_step kV_Plan_put_step dc_Plan_put_step pm_Plan_put_step cd_Plan_put_step ct_Plan_put_step : Value}
    {f_Plan_place_rows : Addr} {od_Plan_place_rows an_Plan_place_rows : Option Addr} {sl_Plan_place_rows : Array (Option Value)} {oc_Plan_place_rows kV_Plan_place_rows dc_Plan_place_rows pm_Plan_place_rows cd_Plan_place_rows ct_Plan_place_rows : Value}
    {f_Plan_step_rows : Addr} {od_Plan_step_rows an_Plan_step_rows : Option Addr} {sl_Plan_step_rows : Array (Option Value)} {oc_Plan_step_rows kV_Plan_step_rows dc_Plan_step_rows pm_Plan_step_rows cd_Plan_step_rows ct_Plan_step_rows : Value}
    {f_Plan___eq__ : Addr} {od_Plan___eq__ an_Plan___eq__ : Option Addr} {sl_Plan___eq__ : Array (Option Value)} {oc_Plan___eq__ kV_Plan___eq__ dc_Plan___eq__ pm_Plan___eq__ cd_Plan___eq__ ct_Plan___eq__ : Value}
    (z_len : PySem.W.nsIn K mainGlobals "len" = some none)
    (z_range : PySem.W.nsIn K mainGlobals "range" = some none)
    (z_abs : PySem.W.nsIn K mainGlobals "abs" = some none)
    (z_sum : PySem.W.nsIn K mainGlobals "sum" = some none)
    (z_sorted : PySem.W.nsIn K mainGlobals "sorted" = some none)
    (z_isinstance : PySem.W.nsIn K mainGlobals "isinstance" = some none)
    (z_zip : PySem.W.nsIn K mainGlobals "zip" = some none)
    (z_enumerate : PySem.W.nsIn K mainGlobals "enumerate" = some none)
    (z_reversed : PySem.W.nsIn K mainGlobals "reversed" = some none)
    (z_int : PySem.W.nsIn K mainGlobals "int" = some none)
    (z_str : PySem.W.nsIn K mainGlobals "str" = some none)
    (z_list : PySem.W.nsIn K mainGlobals "list" = some none)
    (z_tuple : PySem.W.nsIn K mainGlobals "tuple" = some none)
    (z_bool : PySem.W.nsIn K mainGlobals "bool" = some none)
    (z_all : PySem.W.nsIn K mainGlobals "all" = some none)
    (z_any : PySem.W.nsIn K mainGlobals "any" = some none)
    (z_ValueError : PySem.W.nsIn K mainGlobals "ValueError" = some none)
    (z_super : PySem.W.nsIn K mainGlobals "super" = some none)
    (a_LETTERS : PySem.W.nsIn K mainGlobals "LETTERS" = some (some (.str LETTERS t_LETTERS)))
    (a_DIGITS : PySem.W.nsIn K mainGlobals "DIGITS_words" = some (some (.str DIGITS t_DIGITS)))
    (a_MOST_SIGNS : PySem.W.nsIn K mainGlobals "MOST_SIGNS" = some (some (.int 12 t_MOST_SIGNS)))
    (a_MOST_PLACES : PySem.W.nsIn K mainGlobals "MOST_PLACES" = some (some (.int 12 t_MOST_PLACES)))
    (a_MOST_STEPS : PySem.W.nsIn K mainGlobals "MOST_STEPS" = some (some (.int 16 t_MOST_STEPS)))
    (a_MOST_BEGIN : PySem.W.nsIn K mainGlobals "MOST_BEGIN" = some (some (.int 99 t_MOST_BEGIN)))
    (a_LONGEST : PySem.W.nsIn K mainGlobals "LONGEST" = some (some (.int (6 : Int) t_LONGEST)))
    (a_DIGITS_texts : PySem.W.nsIn K mainGlobals "DIGITS_texts" = some (some (.str DIGITS t_DIGITS_texts)))
    (a__law_bag : PySem.W.nsIn K mainGlobals "_law_bag" = some (some (.ref f__law_bag)))
    (l__law_bag : K.lookup f__law_bag = some ⟨oc__law_bag, od__law_bag, .func (PySem.W.fnOf "_law_bag" "_law_bag" (defArgs s__law_bag) (defBody s__law_bag) (defScope s__law_bag) .none kV__law_bag dc__law_bag pm__law_bag an__law_bag cd__law_bag ct__law_bag), sl__law_bag⟩)
    (c__law_bag : PySem.W.codeIn K cd__law_bag "_law_bag" = true)
    (k__law_bag : PySem.W.keepIn K (.ref f__law_bag) = true)
    (a__law_draw : PySem.W.nsIn K mainGlobals "_law_draw" = some (some (.ref f__law_draw)))
    (l__law_draw : K.lookup f__law_draw = some ⟨oc__law_draw, od__law_draw, .func (PySem.W.fnOf "_law_draw" "_law_draw" (defArgs s__law_draw) (defBody s__law_draw) (defScope s__law_draw) .none kV__law_draw dc__law_draw pm__law_draw an__law_draw cd__law_draw ct__law_draw), sl__law_draw⟩)
    (c__law_draw : PySem.W.codeIn K cd__law_draw "_law_draw" = true)
    (k__law_draw : PySem.W.keepIn K (.ref f__law_draw) = true)
    (a_is_word : PySem.W.nsIn K mainGlobals "is_word" = some (some (.ref f_is_word)))
    (l_is_word : K.lookup f_is_word = some ⟨oc_is_word, od_is_word, .func (PySem.W.fnOf "is_word" "is_word" (defArgs s_is_word) (defBody s_is_word) (defScope s_is_word) .none kV_is_word dc_is_word pm_is_word an_is_word cd_is_word ct_is_word), sl_is_word⟩)
    (c_is_word : PySem.W.codeIn K cd_is_word "is_word" = true)
    (k_is_word : PySem.W.keepIn K (.ref f_is_word) = true)
    (a_check_word : PySem.W.nsIn K mainGlobals "check_word" = some (some (.ref f_check_word)))
    (l_check_word : K.lookup f_check_word = some ⟨oc_check_word, od_check_word, .func (PySem.W.fnOf "check_word" "check_word" (defArgs s_check_word) (defBody s_check_word) (defScope s_check_word) .none kV_check_word dc_check_word pm_check_word an_check_word cd_check_word ct_check_word), sl_check_word⟩)
    (c_check_word : PySem.W.codeIn K cd_check_word "check_word" = true)
    (k_check_word : PySem.W.keepIn K (.ref f_check_word) = true)
    (a_check_number : PySem.W.nsIn K mainGlobals "check_number" = some (some (.ref f_check_number)))
    (l_check_number : K.lookup f_check_number = some ⟨oc_check_number, od_check_number, .func (PySem.W.fnOf "check_number" "check_number" (defArgs s_check_number) (defBody s_check_number) (defScope s_check_number) .none kV_check_number dc_check_number pm_check_number an_check_number cd_check_number ct_check_number), sl_check_number⟩)
    (c_check_number : PySem.W.codeIn K cd_check_number "check_number" = true)
    (k_check_number : PySem.W.keepIn K (.ref f_check_number) = true)
    (a_check_names : PySem.W.nsIn K mainGlobals "check_names" = some (some (.ref f_check_names)))
    (l_check_names : K.lookup f_check_names = some ⟨oc_check_names, od_check_names, .func (PySem.W.fnOf "check_names" "check_names" (defArgs s_check_names) (defBody s_check_names) (defScope s_check_names) .none kV_check_names dc_check_names pm_check_names an_check_names cd_check_names ct_check_names), sl_check_names⟩)
    (c_check_names : PySem.W.codeIn K cd_check_names "check_names" = true)
    (k_check_names : PySem.W.keepIn K (.ref f_check_names) = true)
    (a_in_order : PySem.W.nsIn K mainGlobals "in_order" = some (some (.ref f_in_order)))
    (l_in_order : K.lookup f_in_order = some ⟨oc_in_order, od_in_order, .func (PySem.W.fnOf "in_order" "in_order" (defArgs s_in_order) (defBody s_in_order) (defScope s_in_order) .none kV_in_order dc_in_order pm_in_order an_in_order cd_in_order ct_in_order), sl_in_order⟩)
    (c_in_order : PySem.W.codeIn K cd_in_order "in_order" = true)
    (k_in_order : PySem.W.keepIn K (.ref f_in_order) = true)
    (a__law_word : PySem.W.nsIn K mainGlobals "_law_word" = some (some (.ref f__law_word)))
    (l__law_word : K.lookup f__law_word = some ⟨oc__law_word, od__law_word, .func (PySem.W.fnOf "_law_word" "_law_word" (defArgs s__law_word) (defBody s__law_word) (defScope s__law_word) .none kV__law_word dc__law_word pm__law_word an__law_word cd__law_word ct__law_word), sl__law_word⟩)
    (c__law_word : PySem.W.codeIn K cd__law_word "_law_word" = true)
    (k__law_word : PySem.W.keepIn K (.ref f__law_word) = true)
    (a__law_subset : PySem.W.nsIn K mainGlobals "_law_subset" = some (some (.ref f__law_subset)))
    (l__law_subset : K.lookup f__law_subset = some ⟨oc__law_subset, od__law_subset, .func (PySem.W.fnOf "_law_subset" "_law_subset" (defArgs s__law_subset) (defBody s__law_subset) (defScope s__law_subset) .none kV__law_subset dc__law_subset pm__law_subset an__law_subset cd__law_subset ct__law_subset), sl__law_subset⟩)
    (c__law_subset : PySem.W.codeIn K cd__law_subset "_law_subset" = true)
    (k__law_subset : PySem.W.keepIn K (.ref f__law_subset) = true)
    (a__law_any : PySem.W.nsIn K mainGlobals "_law_any" = some (some (.ref f__law_any)))
    (l__law_any : K.lookup f__law_any = some ⟨oc__law_any, od__law_any, .func (PySem.W.fnOf "_law_any" "_law_any" (defArgs s__law_any) (defBody s__law_any) (defScope s__law_any) .none kV__law_any dc__law_any pm__law_any an__law_any cd__law_any ct__law_any), sl__law_any⟩)
    (c__law_any : PySem.W.codeIn K cd__law_any "_law_any" = true)
    (k__law_any : PySem.W.keepIn K (.ref f__law_any) = true)
    (a_read_number : PySem.W.nsIn K mainGlobals "read_number" = some (some (.ref f_read_number)))
    (l_read_number : K.lookup f_read_number = some ⟨oc_read_number, od_read_number, .func (PySem.W.fnOf "read_number" "read_number" (defArgs s_read_number) (defBody s_read_number) (defScope s_read_number) .none kV_read_number dc_read_number pm_read_number an_read_number cd_read_number ct_read_number), sl_read_number⟩)
    (c_read_number : PySem.W.codeIn K cd_read_number "read_number" = true)
    (k_read_number : PySem.W.keepIn K (.ref f_read_number) = true)
    (a_read_place : PySem.W.nsIn K mainGlobals "read_place" = some (some (.ref f_read_place)))
    (l_read_place : K.lookup f_read_place = some ⟨oc_read_place, od_read_place, .func (PySem.W.fnOf "read_place" "read_place" (defArgs s_read_place) (defBody s_read_place) (defScope s_read_place) .none kV_read_place dc_read_place pm_read_place an_read_place cd_read_place ct_read_place), sl_read_place⟩)
    (c_read_place : PySem.W.codeIn K cd_read_place "read_place" = true)
    (k_read_place : PySem.W.keepIn K (.ref f_read_place) = true)
    (a_read_step : PySem.W.nsIn K mainGlobals "read_step" = some (some (.ref f_read_step)))
    (l_read_step : K.lookup f_read_step = some ⟨oc_read_step, od_read_step, .func (PySem.W.fnOf "read_step" "read_step" (defArgs s_read_step) (defBody s_read_step) (defScope s_read_step) .none kV_read_step dc_read_step pm_read_step an_read_step cd_read_step ct_read_step), sl_read_step⟩)
    (c_read_step : PySem.W.codeIn K cd_read_step "read_step" = true)
    (k_read_step : PySem.W.keepIn K (.ref f_read_step) = true)
    (a_read_line : PySem.W.nsIn K mainGlobals "read_line" = some (some (.ref f_read_line)))
    (l_read_line : K.lookup f_read_line = some ⟨oc_read_line, od_read_line, .func (PySem.W.fnOf "read_line" "read_line" (defArgs s_read_line) (defBody s_read_line) (defScope s_read_line) .none kV_read_line dc_read_line pm_read_line an_read_line cd_read_line ct_read_line), sl_read_line⟩)
    (c_read_line : PySem.W.codeIn K cd_read_line "read_line" = true)
    (k_read_line : PySem.W.keepIn K (.ref f_read_line) = true)
    (a_place_line : PySem.W.nsIn K mainGlobals "place_line" = some (some (.ref f_place_line)))
    (l_place_line : K.lookup f_place_line = some ⟨oc_place_line, od_place_line, .func (PySem.W.fnOf "place_line" "place_line" (defArgs s_place_line) (defBody s_place_line) (defScope s_place_line) .none kV_place_line dc_place_line pm_place_line an_place_line cd_place_line ct_place_line), sl_place_line⟩)
    (c_place_line : PySem.W.codeIn K cd_place_line "place_line" = true)
    (k_place_line : PySem.W.keepIn K (.ref f_place_line) = true)
    (a_step_line : PySem.W.nsIn K mainGlobals "step_line" = some (some (.ref f_step_line)))
    (l_step_line : K.lookup f_step_line = some ⟨oc_step_line, od_step_line, .func (PySem.W.fnOf "step_line" "step_line" (defArgs s_step_line) (defBody s_step_line) (defScope s_step_line) .none kV_step_line dc_step_line pm_step_line an_step_line cd_step_line ct_step_line), sl_step_line⟩)
    (c_step_line : PySem.W.codeIn K cd_step_line "step_line" = true)
    (k_step_line : PySem.W.keepIn K (.ref f_step_line) = true)
    (a_write_plan : PySem.W.nsIn K mainGlobals "write_plan" = some (some (.ref f_write_plan)))
    (l_write_plan : K.lookup f_write_plan = some ⟨oc_write_plan, od_write_plan, .func (PySem.W.fnOf "write_plan" "write_plan" (defArgs s_write_plan) (defBody s_write_plan) (defScope s_write_plan) .none kV_write_plan dc_write_plan pm_write_plan an_write_plan cd_write_plan ct_write_plan), sl_write_plan⟩)
    (c_write_plan : PySem.W.codeIn K cd_write_plan "write_plan" = true)
    (k_write_plan : PySem.W.keepIn K (.ref f_write_plan) = true)
    (a_read_plan : PySem.W.nsIn K mainGlobals "read_plan" = some (some (.ref f_read_plan)))
    (l_read_plan : K.lookup f_read_plan = some ⟨oc_read_plan, od_read_plan, .func (PySem.W.fnOf "read_plan" "read_plan" (defArgs s_read_plan) (defBody s_read_plan) (defScope s_read_plan) .none kV_read_plan dc_read_plan pm_read_plan an_read_plan cd_read_plan ct_read_plan), sl_read_plan⟩)
    (c_read_plan : PySem.W.codeIn K cd_read_plan "read_plan" = true)
    (k_read_plan : PySem.W.keepIn K (.ref f_read_plan) = true)
    (a__law_mixed : PySem.W.nsIn K mainGlobals "_law_mixed" = some (some (.ref f__law_mixed)))
    (l__law_mixed : K.lookup f__law_mixed = some ⟨oc__law_mixed, od__law_mixed, .func (PySem.W.fnOf "_law_mixed" "_law_mixed" (defArgs s__law_mixed) (defBody s__law_mixed) (defScope s__law_mixed) .none kV__law_mixed dc__law_mixed pm__law_mixed an__law_mixed cd__law_mixed ct__law_mixed), sl__law_mixed⟩)
    (c__law_mixed : PySem.W.codeIn K cd__law_mixed "_law_mixed" = true)
    (k__law_mixed : PySem.W.keepIn K (.ref f__law_mixed) = true)
    (a__law_plan : PySem.W.nsIn K mainGlobals "_law_plan" = some (some (.ref f__law_plan)))
    (l__law_plan : K.lookup f__law_plan = some ⟨oc__law_plan, od__law_plan, .func (PySem.W.fnOf "_law_plan" "_law_plan" (defArgs s__law_plan) (defBody s__law_plan) (defScope s__law_plan) .none kV__law_plan dc__law_plan pm__law_plan an__law_plan cd__law_plan ct__law_plan), sl__law_plan⟩)
    (c__law_plan : PySem.W.codeIn K cd__law_plan "_law_plan" = true)
    (k__law_plan : PySem.W.keepIn K (.ref f__law_plan) = true)
    (a__law_lines : PySem.W.nsIn K mainGlobals "_law_lines" = some (some (.ref f__law_lines)))
    (l__law_lines : K.lookup f__law_lines = some ⟨oc__law_lines, od__law_lines, .func (PySem.W.fnOf "_law_lines" "_law_lines" (defArgs s__law_lines) (defBody s__law_lines) (defScope s__law_lines) .none kV__law_lines dc__law_lines pm__law_lines an__law_lines cd__law_lines ct__law_lines), sl__law_lines⟩)
    (c__law_lines : PySem.W.codeIn K cd__law_lines "_law_lines" = true)
    (k__law_lines : PySem.W.keepIn K (.ref f__law_lines) = true)
    (a__law_orderly : PySem.W.nsIn K mainGlobals "_law_orderly" = some (some (.ref f__law_orderly)))
    (l__law_orderly : K.lookup f__law_orderly = some ⟨oc__law_orderly, od__law_orderly, .func (PySem.W.fnOf "_law_orderly" "_law_orderly" (defArgs s__law_orderly) (defBody s__law_orderly) (defScope s__law_orderly) .none kV__law_orderly dc__law_orderly pm__law_orderly an__law_orderly cd__law_orderly ct__law_orderly), sl__law_orderly⟩)
    (c__law_orderly : PySem.W.codeIn K cd__law_orderly "_law_orderly" = true)
    (k__law_orderly : PySem.W.keepIn K (.ref f__law_orderly) = true)
    (a__law_rows_right : PySem.W.nsIn K mainGlobals "_law_rows_right" = some (some (.ref f__law_rows_right)))
    (l__law_rows_right : K.lookup f__law_rows_right = some ⟨oc__law_rows_right, od__law_rows_right, .func (PySem.W.fnOf "_law_rows_right" "_law_rows_right" (defArgs s__law_rows_right) (defBody s__law_rows_right) (defScope s__law_rows_right) .none kV__law_rows_right dc__law_rows_right pm__law_rows_right an__law_rows_right cd__law_rows_right ct__law_rows_right), sl__law_rows_right⟩)
    (c__law_rows_right : PySem.W.codeIn K cd__law_rows_right "_law_rows_right" = true)
    (k__law_rows_right : PySem.W.keepIn K (.ref f__law_rows_right) = true)
    (a_law : PySem.W.nsIn K mainGlobals "law" = some (some (.ref f_law)))
    (l_law : K.lookup f_law = some ⟨oc_law, od_law, .func (PySem.W.fnOf "law" "law" (defArgs s_law) (defBody s_law) (defScope s_law) .none kV_law dc_law pm_law an_law cd_law ct_law), sl_law⟩)
    (c_law : PySem.W.codeIn K cd_law "law" = true)
    (k_law : PySem.W.keepIn K (.ref f_law) = true)
    (e_opq : PySem.W.nsIn K cStatics "thirdparty.any" = some none)
    (e_cg : PySem.W.specialIn K (.builtin "object.__class__") "__get__" = some (some (.builtin "getset_descriptor.__get__")))
    (e_ct : PySem.W.takesIn K (.builtin "object.__class__") = some true)
    (aC_TooMany : PySem.W.nsIn K mainGlobals "TooMany" = some (some (.ref C_TooMany)))
    (xL_TooMany : K.lookup C_TooMany = some (excClassObj nm_TooMany q_TooMany C_TooMany N_TooMany bs_TooMany bm_TooMany true sn_TooMany sub_TooMany ab_TooMany col_TooMany dd_TooMany m0_TooMany m1_TooMany m2_TooMany m3_TooMany m5_TooMany "ValueError.__new__"))
    (bm_TooMany : PySem.HandSPX.refsVE bm_TooMany = true)
    (sa_TooMany : PySem.W.findIn K (.ref C_TooMany) "__setattr__" = some (some (.builtin "object.__setattr__")))
    (ga_TooMany : PySem.W.findIn K (.ref C_TooMany) "__getattribute__" = some (some (.builtin "BaseException.__getattribute__")))
    (gg_TooMany : PySem.W.findIn K (.ref C_TooMany) "__getattr__" = some none)
    (no_kind_TooMany : PySem.W.findIn K (.ref C_TooMany) "kind" = some none)
    (no_limit_TooMany : PySem.W.findIn K (.ref C_TooMany) "limit" = some none)
    (iC_TooMany : PySem.W.findIn K (.ref C_TooMany) "__init__" = some (some (.ref fI_TooMany)))
    (tI_TooMany : PySem.W.typeIn K (.ref fI_TooMany) = some (.type "function"))
    (kC_TooMany : PySem.W.keepIn K (.ref C_TooMany) = true)
    (ex_TooMany : PySem.W.subIn K (.ref C_TooMany) (.type "BaseException") = some true)
    (ve_TooMany : PySem.W.subIn K (.ref C_TooMany) (.type "ValueError") = some true)
    (ty_TooMany : PySem.W.typeIn K (.ref C_TooMany) = some (.type "type"))
    (hd_TooMany : PySem.W.hasDictIn K C_TooMany = true)
    (sup_TooMany : PySem.W.ks_superIn K C_TooMany C_TooMany "__init__" = some (some (.builtin "ValueError.__init__")))
    (mro_TooMany : PySem.W.mroIn K C_TooMany (.ref C_TooMany) = some true)
    (su_TooMany : PySem.W.subIn K (.ref C_TooMany) (.ref C_TooMany) = some true)
    (ca_TooMany : PySem.W.findIn K (.ref C_TooMany) "__class__" = some (some (.builtin "object.__class__")))
    (mo_TooMany : PySem.W.mroIn K C_TooMany (.type "object") = some true)
    (l_TooMany : K.lookup fI_TooMany = some ⟨oc_TooMany, od_TooMany, .func (PySem.W.ksFn "__init__" "TooMany.__init__" (defArgs (inClass (topS 8) 0)) (defBody (inClass (topS 8) 0)) (defScope (inClass (topS 8) 0)) .none kV_TooMany dc_TooMany pm_TooMany an_TooMany (.ref cda_TooMany) ct_TooMany cc_TooMany), sl_TooMany⟩)
    (c_TooMany : PySem.W.codeIn K (.ref cda_TooMany) "TooMany.__init__" = true)
    (lc_TooMany : K.lookup cda_TooMany = some ⟨ccl_TooMany, cdd_TooMany, .fields vs_TooMany, ccs_TooMany⟩)
    (v2_TooMany : vs_TooMany[2]? = some (.str file_TooMany tf_TooMany))
    (fl_TooMany : ((P.main.file : Str) == file_TooMany) = true)
    (cc_TooMany : K.lookup cc_TooMany = some ⟨cl_TooMany, cld_TooMany, .cell (some (.ref C_TooMany)), csl_TooMany⟩)
    (aC_BadWord : PySem.W.nsIn K mainGlobals "BadWord" = some (some (.ref C_BadWord)))
    (xL_BadWord : K.lookup C_BadWord = some (excClassObj nm_BadWord q_BadWord C_BadWord N_BadWord bs_BadWord bm_BadWord true sn_BadWord sub_BadWord ab_BadWord col_BadWord dd_BadWord m0_BadWord m1_BadWord m2_BadWord m3_BadWord m5_BadWord "ValueError.__new__"))
    (bm_BadWord : PySem.HandSPX.refsVE bm_BadWord = true)
    (sa_BadWord : PySem.W.findIn K (.ref C_BadWord) "__setattr__" = some (some (.builtin "object.__setattr__")))
    (ga_BadWord : PySem.W.findIn K (.ref C_BadWord) "__getattribute__" = some (some (.builtin "BaseException.__getattribute__")))
    (gg_BadWord : PySem.W.findIn K (.ref C_BadWord) "__getattr__" = some none)
    (no_word_BadWord : PySem.W.findIn K (.ref C_BadWord) "word" = some none)
    (iC_BadWord : PySem.W.findIn K (.ref C_BadWord) "__init__" = some (some (.ref fI_BadWord)))
    (tI_BadWord : PySem.W.typeIn K (.ref fI_BadWord) = some (.type "function"))
    (kC_BadWord : PySem.W.keepIn K (.ref C_BadWord) = true)
    (ex_BadWord : PySem.W.subIn K (.ref C_BadWord) (.type "BaseException") = some true)
    (ve_BadWord : PySem.W.subIn K (.ref C_BadWord) (.type "ValueError") = some true)
    (ty_BadWord : PySem.W.typeIn K (.ref C_BadWord) = some (.type "type"))
    (hd_BadWord : PySem.W.hasDictIn K C_BadWord = true)
    (sup_BadWord : PySem.W.ks_superIn K C_BadWord C_BadWord "__init__" = some (some (.builtin "ValueError.__init__")))
    (mro_BadWord : PySem.W.mroIn K C_BadWord (.ref C_BadWord) = some true)
    (su_BadWord : PySem.W.subIn K (.ref C_BadWord) (.ref C_BadWord) = some true)
    (ca_BadWord : PySem.W.findIn K (.ref C_BadWord) "__class__" = some (some (.builtin "object.__class__")))
    (mo_BadWord : PySem.W.mroIn K C_BadWord (.type "object") = some true)
    (l_BadWord : K.lookup fI_BadWord = some ⟨oc_BadWord, od_BadWord, .func (PySem.W.ksFn "__init__" "BadWord.__init__" (defArgs (inClass (topS 3) 0)) (defBody (inClass (topS 3) 0)) (defScope (inClass (topS 3) 0)) .none kV_BadWord dc_BadWord pm_BadWord an_BadWord (.ref cda_BadWord) ct_BadWord cc_BadWord), sl_BadWord⟩)
    (c_BadWord : PySem.W.codeIn K (.ref cda_BadWord) "BadWord.__init__" = true)
    (lc_BadWord : K.lookup cda_BadWord = some ⟨ccl_BadWord, cdd_BadWord, .fields vs_BadWord, ccs_BadWord⟩)
    (v2_BadWord : vs_BadWord[2]? = some (.str file_BadWord tf_BadWord))
    (fl_BadWord : ((P.main.file : Str) == file_BadWord) = true)
    (cc_BadWord : K.lookup cc_BadWord = some ⟨cl_BadWord, cld_BadWord, .cell (some (.ref C_BadWord)), csl_BadWord⟩)
    (aC_DoubleName : PySem.W.nsIn K mainGlobals "DoubleName" = some (some (.ref C_DoubleName)))
    (xL_DoubleName : K.lookup C_DoubleName = some (excClassObj nm_DoubleName q_DoubleName C_DoubleName N_DoubleName bs_DoubleName bm_DoubleName true sn_DoubleName sub_DoubleName ab_DoubleName col_DoubleName dd_DoubleName m0_DoubleName m1_DoubleName m2_DoubleName m3_DoubleName m5_DoubleName "ValueError.__new__"))
    (bm_DoubleName : PySem.HandSPX.refsVE bm_DoubleName = true)
    (sa_DoubleName : PySem.W.findIn K (.ref C_DoubleName) "__setattr__" = some (some (.builtin "object.__setattr__")))
    (ga_DoubleName : PySem.W.findIn K (.ref C_DoubleName) "__getattribute__" = some (some (.builtin "BaseException.__getattribute__")))
    (gg_DoubleName : PySem.W.findIn K (.ref C_DoubleName) "__getattr__" = some none)
    (no_name_DoubleName : PySem.W.findIn K (.ref C_DoubleName) "name" = some none)
    (iC_DoubleName : PySem.W.findIn K (.ref C_DoubleName) "__init__" = some (some (.ref fI_DoubleName)))
    (tI_DoubleName : PySem.W.typeIn K (.ref fI_DoubleName) = some (.type "function"))
    (kC_DoubleName : PySem.W.keepIn K (.ref C_DoubleName) = true)
    (ex_DoubleName : PySem.W.subIn K (.ref C_DoubleName) (.type "BaseException") = some true)
    (ve_DoubleName : PySem.W.subIn K (.ref C_DoubleName) (.type "ValueError") = some true)
    (ty_DoubleName : PySem.W.typeIn K (.ref C_DoubleName) = some (.type "type"))
    (hd_DoubleName : PySem.W.hasDictIn K C_DoubleName = true)
    (sup_DoubleName : PySem.W.ks_superIn K C_DoubleName C_DoubleName "__init__" = some (some (.builtin "ValueError.__init__")))
    (mro_DoubleName : PySem.W.mroIn K C_DoubleName (.ref C_DoubleName) = some true)
    (su_DoubleName : PySem.W.subIn K (.ref C_DoubleName) (.ref C_DoubleName) = some true)
    (ca_DoubleName : PySem.W.findIn K (.ref C_DoubleName) "__class__" = some (some (.builtin "object.__class__")))
    (mo_DoubleName : PySem.W.mroIn K C_DoubleName (.type "object") = some true)
    (l_DoubleName : K.lookup fI_DoubleName = some ⟨oc_DoubleName, od_DoubleName, .func (PySem.W.ksFn "__init__" "DoubleName.__init__" (defArgs (inClass (topS 6) 0)) (defBody (inClass (topS 6) 0)) (defScope (inClass (topS 6) 0)) .none kV_DoubleName dc_DoubleName pm_DoubleName an_DoubleName (.ref cda_DoubleName) ct_DoubleName cc_DoubleName), sl_DoubleName⟩)
    (c_DoubleName : PySem.W.codeIn K (.ref cda_DoubleName) "DoubleName.__init__" = true)
    (lc_DoubleName : K.lookup cda_DoubleName = some ⟨ccl_DoubleName, cdd_DoubleName, .fields vs_DoubleName, ccs_DoubleName⟩)
    (v2_DoubleName : vs_DoubleName[2]? = some (.str file_DoubleName tf_DoubleName))
    (fl_DoubleName : ((P.main.file : Str) == file_DoubleName) = true)
    (cc_DoubleName : K.lookup cc_DoubleName = some ⟨cl_DoubleName, cld_DoubleName, .cell (some (.ref C_DoubleName)), csl_DoubleName⟩)
    (aC_BadNumber : PySem.W.nsIn K mainGlobals "BadNumber" = some (some (.ref C_BadNumber)))
    (xL_BadNumber : K.lookup C_BadNumber = some (excClassObj nm_BadNumber q_BadNumber C_BadNumber N_BadNumber bs_BadNumber bm_BadNumber true sn_BadNumber sub_BadNumber ab_BadNumber col_BadNumber dd_BadNumber m0_BadNumber m1_BadNumber m2_BadNumber m3_BadNumber m5_BadNumber "ValueError.__new__"))
    (bm_BadNumber : PySem.HandSPX.refsVE bm_BadNumber = true)
    (sa_BadNumber : PySem.W.findIn K (.ref C_BadNumber) "__setattr__" = some (some (.builtin "object.__setattr__")))
    (ga_BadNumber : PySem.W.findIn K (.ref C_BadNumber) "__getattribute__" = some (some (.builtin "BaseException.__getattribute__")))
    (gg_BadNumber : PySem.W.findIn K (.ref C_BadNumber) "__getattr__" = some none)
    (no_number_BadNumber : PySem.W.findIn K (.ref C_BadNumber) "number" = some none)
    (iC_BadNumber : PySem.W.findIn K (.ref C_BadNumber) "__init__" = some (some (.ref fI_BadNumber)))
    (tI_BadNumber : PySem.W.typeIn K (.ref fI_BadNumber) = some (.type "function"))
    (kC_BadNumber : PySem.W.keepIn K (.ref C_BadNumber) = true)
    (ex_BadNumber : PySem.W.subIn K (.ref C_BadNumber) (.type "BaseException") = some true)
    (ve_BadNumber : PySem.W.subIn K (.ref C_BadNumber) (.type "ValueError") = some true)
    (ty_BadNumber : PySem.W.typeIn K (.ref C_BadNumber) = some (.type "type"))
    (hd_BadNumber : PySem.W.hasDictIn K C_BadNumber = true)
    (sup_BadNumber : PySem.W.ks_superIn K C_BadNumber C_BadNumber "__init__" = some (some (.builtin "ValueError.__init__")))
    (mro_BadNumber : PySem.W.mroIn K C_BadNumber (.ref C_BadNumber) = some true)
    (su_BadNumber : PySem.W.subIn K (.ref C_BadNumber) (.ref C_BadNumber) = some true)
    (ca_BadNumber : PySem.W.findIn K (.ref C_BadNumber) "__class__" = some (some (.builtin "object.__class__")))
    (mo_BadNumber : PySem.W.mroIn K C_BadNumber (.type "object") = some true)
    (l_BadNumber : K.lookup fI_BadNumber = some ⟨oc_BadNumber, od_BadNumber, .func (PySem.W.ksFn "__init__" "BadNumber.__init__" (defArgs (inClass (topS 4) 0)) (defBody (inClass (topS 4) 0)) (defScope (inClass (topS 4) 0)) .none kV_BadNumber dc_BadNumber pm_BadNumber an_BadNumber (.ref cda_BadNumber) ct_BadNumber cc_BadNumber), sl_BadNumber⟩)
    (c_BadNumber : PySem.W.codeIn K (.ref cda_BadNumber) "BadNumber.__init__" = true)
    (lc_BadNumber : K.lookup cda_BadNumber = some ⟨ccl_BadNumber, cdd_BadNumber, .fields vs_BadNumber, ccs_BadNumber⟩)
    (v2_BadNumber : vs_BadNumber[2]? = some (.str file_BadNumber tf_BadNumber))
    (fl_BadNumber : ((P.main.file : Str) == file_BadNumber) = true)
    (cc_BadNumber : K.lookup cc_BadNumber = some ⟨cl_BadNumber, cld_BadNumber, .cell (some (.ref C_BadNumber)), csl_BadNumber⟩)
    (aC_EmptyStep : PySem.W.nsIn K mainGlobals "EmptyStep" = some (some (.ref C_EmptyStep)))
    (xL_EmptyStep : K.lookup C_EmptyStep = some (excClassObj nm_EmptyStep q_EmptyStep C_EmptyStep N_EmptyStep bs_EmptyStep bm_EmptyStep true sn_EmptyStep sub_EmptyStep ab_EmptyStep col_EmptyStep dd_EmptyStep m0_EmptyStep m1_EmptyStep m2_EmptyStep m3_EmptyStep m5_EmptyStep "ValueError.__new__"))
    (bm_EmptyStep : PySem.HandSPX.refsVE bm_EmptyStep = true)
    (sa_EmptyStep : PySem.W.findIn K (.ref C_EmptyStep) "__setattr__" = some (some (.builtin "object.__setattr__")))
    (ga_EmptyStep : PySem.W.findIn K (.ref C_EmptyStep) "__getattribute__" = some (some (.builtin "BaseException.__getattribute__")))
    (gg_EmptyStep : PySem.W.findIn K (.ref C_EmptyStep) "__getattr__" = some none)
    (no_name_EmptyStep : PySem.W.findIn K (.ref C_EmptyStep) "name" = some none)
    (iC_EmptyStep : PySem.W.findIn K (.ref C_EmptyStep) "__init__" = some (some (.ref fI_EmptyStep)))
    (tI_EmptyStep : PySem.W.typeIn K (.ref fI_EmptyStep) = some (.type "function"))
    (kC_EmptyStep : PySem.W.keepIn K (.ref C_EmptyStep) = true)
    (ex_EmptyStep : PySem.W.subIn K (.ref C_EmptyStep) (.type "BaseException") = some true)
    (ve_EmptyStep : PySem.W.subIn K (.ref C_EmptyStep) (.type "ValueError") = some true)
    (ty_EmptyStep : PySem.W.typeIn K (.ref C_EmptyStep) = some (.type "type"))
    (hd_EmptyStep : PySem.W.hasDictIn K C_EmptyStep = true)
    (sup_EmptyStep : PySem.W.ks_superIn K C_EmptyStep C_EmptyStep "__init__" = some (some (.builtin "ValueError.__init__")))
    (mro_EmptyStep : PySem.W.mroIn K C_EmptyStep (.ref C_EmptyStep) = some true)
    (su_EmptyStep : PySem.W.subIn K (.ref C_EmptyStep) (.ref C_EmptyStep) = some true)
    (ca_EmptyStep : PySem.W.findIn K (.ref C_EmptyStep) "__class__" = some (some (.builtin "object.__class__")))
    (mo_EmptyStep : PySem.W.mroIn K C_EmptyStep (.type "object") = some true)
    (l_EmptyStep : K.lookup fI_EmptyStep = some ⟨oc_EmptyStep, od_EmptyStep, .func (PySem.W.ksFn "__init__" "EmptyStep.__init__" (defArgs (inClass (topS 7) 0)) (defBody (inClass (topS 7) 0)) (defScope (inClass (topS 7) 0)) .none kV_EmptyStep dc_EmptyStep pm_EmptyStep an_EmptyStep (.ref cda_EmptyStep) ct_EmptyStep cc_EmptyStep), sl_EmptyStep⟩)
    (c_EmptyStep : PySem.W.codeIn K (.ref cda_EmptyStep) "EmptyStep.__init__" = true)
    (lc_EmptyStep : K.lookup cda_EmptyStep = some ⟨ccl_EmptyStep, cdd_EmptyStep, .fields vs_EmptyStep, ccs_EmptyStep⟩)
    (v2_EmptyStep : vs_EmptyStep[2]? = some (.str file_EmptyStep tf_EmptyStep))
    (fl_EmptyStep : ((P.main.file : Str) == file_EmptyStep) = true)
    (cc_EmptyStep : K.lookup cc_EmptyStep = some ⟨cl_EmptyStep, cld_EmptyStep, .cell (some (.ref C_EmptyStep)), csl_EmptyStep⟩)
    (aC_UnknownName : PySem.W.nsIn K mainGlobals "UnknownName" = some (some (.ref C_UnknownName)))
    (xL_UnknownName : K.lookup C_UnknownName = some (excClassObj nm_UnknownName q_UnknownName C_UnknownName N_UnknownName bs_UnknownName bm_UnknownName true sn_UnknownName sub_UnknownName ab_UnknownName col_UnknownName dd_UnknownName m0_UnknownName m1_UnknownName m2_UnknownName m3_UnknownName m5_UnknownName "ValueError.__new__"))
    (bm_UnknownName : PySem.HandSPX.refsVE bm_UnknownName = true)
    (sa_UnknownName : PySem.W.findIn K (.ref C_UnknownName) "__setattr__" = some (some (.builtin "object.__setattr__")))
    (ga_UnknownName : PySem.W.findIn K (.ref C_UnknownName) "__getattribute__" = some (some (.builtin "BaseException.__getattribute__")))
    (gg_UnknownName : PySem.W.findIn K (.ref C_UnknownName) "__getattr__" = some none)
    (no_name_UnknownName : PySem.W.findIn K (.ref C_UnknownName) "name" = some none)
    (iC_UnknownName : PySem.W.findIn K (.ref C_UnknownName) "__init__" = some (some (.ref fI_UnknownName)))
    (tI_UnknownName : PySem.W.typeIn K (.ref fI_UnknownName) = some (.type "function"))
    (kC_UnknownName : PySem.W.keepIn K (.ref C_UnknownName) = true)
    (ex_UnknownName : PySem.W.subIn K (.ref C_UnknownName) (.type "BaseException") = some true)
    (ve_UnknownName : PySem.W.subIn K (.ref C_UnknownName) (.type "ValueError") = some true)
    (ty_UnknownName : PySem.W.typeIn K (.ref C_UnknownName) = some (.type "type"))
    (hd_UnknownName : PySem.W.hasDictIn K C_UnknownName = true)
    (sup_UnknownName : PySem.W.ks_superIn K C_UnknownName C_UnknownName "__init__" = some (some (.builtin "ValueError.__init__")))
    (mro_UnknownName : PySem.W.mroIn K C_UnknownName (.ref C_UnknownName) = some true)
    (su_UnknownName : PySem.W.subIn K (.ref C_UnknownName) (.ref C_UnknownName) = some true)
    (ca_UnknownName : PySem.W.findIn K (.ref C_UnknownName) "__class__" = some (some (.builtin "object.__class__")))
    (mo_UnknownName : PySem.W.mroIn K C_UnknownName (.type "object") = some true)
    (l_UnknownName : K.lookup fI_UnknownName = some ⟨oc_UnknownName, od_UnknownName, .func (PySem.W.ksFn "__init__" "UnknownName.__init__" (defArgs (inClass (topS 5) 0)) (defBody (inClass (topS 5) 0)) (defScope (inClass (topS 5) 0)) .none kV_UnknownName dc_UnknownName pm_UnknownName an_UnknownName (.ref cda_UnknownName) ct_UnknownName cc_UnknownName), sl_UnknownName⟩)
    (c_UnknownName : PySem.W.codeIn K (.ref cda_UnknownName) "UnknownName.__init__" = true)
    (lc_UnknownName : K.lookup cda_UnknownName = some ⟨ccl_UnknownName, cdd_UnknownName, .fields vs_UnknownName, ccs_UnknownName⟩)
    (v2_UnknownName : vs_UnknownName[2]? = some (.str file_UnknownName tf_UnknownName))
    (fl_UnknownName : ((P.main.file : Str) == file_UnknownName) = true)
    (cc_UnknownName : K.lookup cc_UnknownName = some ⟨cl_UnknownName, cld_UnknownName, .cell (some (.ref C_UnknownName)), csl_UnknownName⟩)
    (aC_BadText : PySem.W.nsIn K mainGlobals "BadText" = some (some (.ref C_BadText)))
    (xL_BadText : K.lookup C_BadText = some (excClassObj nm_BadText q_BadText C_BadText N_BadText bs_BadText bm_BadText true sn_BadText sub_BadText ab_BadText col_BadText dd_BadText m0_BadText m1_BadText m2_BadText m3_BadText m5_BadText "ValueError.__new__"))
    (bm_BadText : PySem.HandSPX.refsVE bm_BadText = true)
    (sa_BadText : PySem.W.findIn K (.ref C_BadText) "__setattr__" = some (some (.builtin "object.__setattr__")))
    (ga_BadText : PySem.W.findIn K (.ref C_BadText) "__getattribute__" = some (some (.builtin "BaseException.__getattribute__")))
    (gg_BadText : PySem.W.findIn K (.ref C_BadText) "__getattr__" = some none)
    (no_line_number_BadText : PySem.W.findIn K (.ref C_BadText) "line_number" = some none)
    (iC_BadText : PySem.W.findIn K (.ref C_BadText) "__init__" = some (some (.ref fI_BadText)))
    (tI_BadText : PySem.W.typeIn K (.ref fI_BadText) = some (.type "function"))
    (kC_BadText : PySem.W.keepIn K (.ref C_BadText) = true)
    (ex_BadText : PySem.W.subIn K (.ref C_BadText) (.type "BaseException") = some true)
    (ve_BadText : PySem.W.subIn K (.ref C_BadText) (.type "ValueError") = some true)
    (ty_BadText : PySem.W.typeIn K (.ref C_BadText) = some (.type "type"))
    (hd_BadText : PySem.W.hasDictIn K C_BadText = true)
    (sup_BadText : PySem.W.ks_superIn K C_BadText C_BadText "__init__" = some (some (.builtin "ValueError.__init__")))
    (mro_BadText : PySem.W.mroIn K C_BadText (.ref C_BadText) = some true)
    (su_BadText : PySem.W.subIn K (.ref C_BadText) (.ref C_BadText) = some true)
    (ca_BadText : PySem.W.findIn K (.ref C_BadText) "__class__" = some (some (.builtin "object.__class__")))
    (mo_BadText : PySem.W.mroIn K C_BadText (.type "object") = some true)
    (l_BadText : K.lookup fI_BadText = some ⟨oc_BadText, od_BadText, .func (PySem.W.ksFn "__init__" "BadText.__init__" (defArgs (inClass (topS 9) 0)) (defBody (inClass (topS 9) 0)) (defScope (inClass (topS 9) 0)) .none kV_BadText dc_BadText pm_BadText an_BadText (.ref cda_BadText) ct_BadText cc_BadText), sl_BadText⟩)
    (c_BadText : PySem.W.codeIn K (.ref cda_BadText) "BadText.__init__" = true)
    (lc_BadText : K.lookup cda_BadText = some ⟨ccl_BadText, cdd_BadText, .fields vs_BadText, ccs_BadText⟩)
    (v2_BadText : vs_BadText[2]? = some (.str file_BadText tf_BadText))
    (fl_BadText : ((P.main.file : Str) == file_BadText) = true)
    (cc_BadText : K.lookup cc_BadText = some ⟨cl_BadText, cld_BadText, .cell (some (.ref C_BadText)), csl_BadText⟩)
    (aC_Plan : PySem.W.nsIn K mainGlobals "Plan" = some (some (.ref C_Plan)))
    (pg_Plan : PySem.W.plainGet K C_Plan Str.empty = true)
    (hd_Plan : PySem.W.hasDictIn K C_Plan = true)
    (po_Plan : PySem.W.plainOver K C_Plan = true)
    (sa_Plan : PySem.W.findIn K (.ref C_Plan) "__setattr__" = some (some (.builtin "object.__setattr__")))
    (no_places_Plan : PySem.W.findIn K (.ref C_Plan) "places" = some none)
    (no_begin_Plan : PySem.W.findIn K (.ref C_Plan) "begin" = some none)
    (no_taken_Plan : PySem.W.findIn K (.ref C_Plan) "taken" = some none)
    (no_given_Plan : PySem.W.findIn K (.ref C_Plan) "given" = some none)
    (no_steps_Plan : PySem.W.findIn K (.ref C_Plan) "steps" = some none)
    (ca_Plan : PySem.W.findIn K (.ref C_Plan) "__class__" = some (some (.builtin "object.__class__")))
    (mo_Plan : PySem.W.mroIn K C_Plan (.type "object") = some true)
    (mk_Plan : PySem.W.makesIn K C_Plan = true)
    (kC_Plan : PySem.W.keepIn K (.ref C_Plan) = true)
    (a_Plan___init__ : PySem.W.findIn K (.ref C_Plan) "__init__" = some (some (.ref f_Plan___init__)))
    (i_Plan___init__ : PySem.W.isFn K (.ref f_Plan___init__) = true)
    (l_Plan___init__ : K.lookup f_Plan___init__ = some ⟨oc_Plan___init__, od_Plan___init__, .func (PySem.W.fnOf "__init__" "Plan.__init__" (defArgs s_Plan___init__) (defBody s_Plan___init__) (defScope s_Plan___init__) .none kV_Plan___init__ dc_Plan___init__ pm_Plan___init__ an_Plan___init__ cd_Plan___init__ ct_Plan___init__), sl_Plan___init__⟩)
    (c_Plan___init__ : PySem.W.codeIn K cd_Plan___init__ "Plan.__init__" = true)
    (k_Plan___init__ : PySem.W.keepIn K (.ref f_Plan___init__) = true)
    (a_Plan_put_step : PySem.W.findIn K (.ref C_Plan) "put_step" = some (some (.ref f_Plan_put_step)))
    (i_Plan_put_step : PySem.W.isFn K (.ref f_Plan_put_step) = true)
    (l_Plan_put_step : K.lookup f_Plan_put_step = some ⟨oc_Plan_put_step, od_Plan_put_step, .func (PySem.W.fnOf "put_step" "Plan.put_step" (defArgs s_Plan_put_step) (defBody s_Plan_put_step) (defScope s_Plan_put_step) .none kV_Plan_put_step dc_Plan_put_step pm_Plan_put_step an_Plan_put_step cd_Plan_put_step ct_Plan_put_step), sl_Plan_put_step⟩)
    (c_Plan_put_step : PySem.W.codeIn K cd_Plan_put_step "Plan.put_step" = true)
    (k_Plan_put_step : PySem.W.keepIn K (.ref f_Plan_put_step) = true)
    (a_Plan_place_rows : PySem.W.findIn K (.ref C_Plan) "place_rows" = some (some (.ref f_Plan_place_rows)))
    (i_Plan_place_rows : PySem.W.isFn K (.ref f_Plan_place_rows) = true)
    (l_Plan_place_rows : K.lookup f_Plan_place_rows = some ⟨oc_Plan_place_rows, od_Plan_place_rows, .func (PySem.W.fnOf "place_rows" "Plan.place_rows" (defArgs s_Plan_place_rows) (defBody s_Plan_place_rows) (defScope s_Plan_place_rows) .none kV_Plan_place_rows dc_Plan_place_rows pm_Plan_place_rows an_Plan_place_rows cd_Plan_place_rows ct_Plan_place_rows), sl_Plan_place_rows⟩)
    (c_Plan_place_rows : PySem.W.codeIn K cd_Plan_place_rows "Plan.place_rows" = true)
    (k_Plan_place_rows : PySem.W.keepIn K (.ref f_Plan_place_rows) = true)
    (a_Plan_step_rows : PySem.W.findIn K (.ref C_Plan) "step_rows" = some (some (.ref f_Plan_step_rows)))
    (i_Plan_step_rows : PySem.W.isFn K (.ref f_Plan_step_rows) = true)
    (l_Plan_step_rows : K.lookup f_Plan_step_rows = some ⟨oc_Plan_step_rows, od_Plan_step_rows, .func (PySem.W.fnOf "step_rows" "Plan.step_rows" (defArgs s_Plan_step_rows) (defBody s_Plan_step_rows) (defScope s_Plan_step_rows) .none kV_Plan_step_rows dc_Plan_step_rows pm_Plan_step_rows an_Plan_step_rows cd_Plan_step_rows ct_Plan_step_rows), sl_Plan_step_rows⟩)
    (c_Plan_step_rows : PySem.W.codeIn K cd_Plan_step_rows "Plan.step_rows" = true)
    (k_Plan_step_rows : PySem.W.keepIn K (.ref f_Plan_step_rows) = true)
    (a_Plan___eq__ : PySem.W.findIn K (.ref C_Plan) "__eq__" = some (some (.ref f_Plan___eq__)))
    (i_Plan___eq__ : PySem.W.isFn K (.ref f_Plan___eq__) = true)
    (l_Plan___eq__ : K.lookup f_Plan___eq__ = some ⟨oc_Plan___eq__, od_Plan___eq__, .func (PySem.W.fnOf "__eq__" "Plan.__eq__" (defArgs s_Plan___eq__) (defBody s_Plan___eq__) (defScope s_Plan___eq__) .none kV_Plan___eq__ dc_Plan___eq__ pm_Plan___eq__ an_Plan___eq__ cd_Plan___eq__ ct_Plan___eq__), sl_Plan___eq__⟩)
    (c_Plan___eq__ : PySem.W.codeIn K cd_Plan___eq__ "Plan.__eq__" = true)
    (k_Plan___eq__ : PySem.W.keepIn K (.ref f_Plan___eq__) = true)
    (si_Plan : PySem.W.subIn K (.type "int") (.ref C_Plan) = some false)
    (is_Plan : PySem.W.subIn K (.ref C_Plan) (.type "int") = some false)
    (ne_Plan : PySem.W.findIn K (.ref C_Plan) "__ne__" = some (some (.builtin "object.__ne__")))
    (kt_Plan_Plan : PySem.W.kitOne K (.ref C_Plan) (.ref C_Plan) = some true) :
    ∃ fd : FuncData, (∀ (s : Shared) (v : Value), BindsTo s fd ⟨[v], []⟩ [("_law_script", v)]) ∧ ∀ base : Heap, K.In base → base.Ns mainGlobals mg → FnOk P w K mg base CX0 7 fa fd ["_law_script"] (spLaw K) := by
  have e := hfa.symm.trans (PySem.W.mg_of X G a_law)
  cases e
  have B : Bl mg := ⟨PySem.W.mg_none_of X G z_len, PySem.W.mg_none_of X G z_range, PySem.W.mg_none_of X G z_abs, PySem.W.mg_none_of X G z_sum, PySem.W.mg_none_of X G z_sorted, PySem.W.mg_none_of X G z_isinstance, PySem.W.mg_none_of X G z_zip, PySem.W.mg_none_of X G z_enumerate, PySem.W.mg_none_of X G z_reversed, PySem.W.mg_none_of X G z_int, PySem.W.mg_none_of X G z_str, PySem.W.mg_none_of X G z_list, PySem.W.mg_none_of X G z_tuple, PySem.W.mg_none_of X G z_bool, PySem.W.mg_none_of X G z_all, PySem.W.mg_none_of X G z_any, PySem.W.mg_none_of X G z_ValueError⟩
  have g_LETTERS := glo_str X G a_LETTERS
  have g_DIGITS_words := glo_str X G a_DIGITS
  have g_MOST_SIGNS := glo_int X G a_MOST_SIGNS
  have g_MOST_PLACES := glo_int X G a_MOST_PLACES
  have g_MOST_STEPS := glo_int X G a_MOST_STEPS
  have g_MOST_BEGIN := glo_int X G a_MOST_BEGIN
  have g_LONGEST := glo_int X G a_LONGEST
  have g_DIGITS_texts := glo_str X G a_DIGITS_texts
  have F__law_bag : Src K mg "_law_bag" s__law_bag ["_law_script"] := src_mk X G a__law_bag l__law_bag c__law_bag k__law_bag (fun _ _ _ _ _ _ us hl => match us, hl with | [_], _ => rfl)
  have F__law_draw : Src K mg "_law_draw" s__law_draw ["_law_bag_here", "_law_many"] := src_mk X G a__law_draw l__law_draw c__law_draw k__law_draw (fun _ _ _ _ _ _ us hl => match us, hl with | [_, _], _ => rfl)
  have F_is_word : Src K mg "is_word" s_is_word ["word"] := src_mk X G a_is_word l_is_word c_is_word k_is_word (fun _ _ _ _ _ _ us hl => match us, hl with | [_], _ => rfl)
  have F_check_word : Src K mg "check_word" s_check_word ["word"] := src_mk X G a_check_word l_check_word c_check_word k_check_word (fun _ _ _ _ _ _ us hl => match us, hl with | [_], _ => rfl)
  have F_check_number : Src K mg "check_number" s_check_number ["number", "least", "most"] := src_mk X G a_check_number l_check_number c_check_number k_check_number (fun _ _ _ _ _ _ us hl => match us, hl with | [_, _, _], _ => rfl)
  have F_check_names : Src K mg "check_names" s_check_names ["names", "known"] := src_mk X G a_check_names l_check_names c_check_names k_check_names (fun _ _ _ _ _ _ us hl => match us, hl with | [_, _], _ => rfl)
  have F_in_order : Src K mg "in_order" s_in_order ["names", "places"] := src_mk X G a_in_order l_in_order c_in_order k_in_order (fun _ _ _ _ _ _ us hl => match us, hl with | [_, _], _ => rfl)
  have F__law_word : Src K mg "_law_word" s__law_word ["_law_bag_here", "_law_used"] := src_mk X G a__law_word l__law_word c__law_word k__law_word (fun _ _ _ _ _ _ us hl => match us, hl with | [_, _], _ => rfl)
  have F__law_subset : Src K mg "_law_subset" s__law_subset ["_law_bag_here", "_law_words", "_law_least"] := src_mk X G a__law_subset l__law_subset c__law_subset k__law_subset (fun _ _ _ _ _ _ us hl => match us, hl with | [_, _, _], _ => rfl)
  have F__law_any : Src K mg "_law_any" s__law_any ["_law_bag_here", "_law_most", "_law_reach"] := src_mk X G a__law_any l__law_any c__law_any k__law_any (fun _ _ _ _ _ _ us hl => match us, hl with | [_, _, _], _ => rfl)
  have F_read_number : Src K mg "read_number" s_read_number ["text"] := src_mk X G a_read_number l_read_number c_read_number k_read_number (fun _ _ _ _ _ _ us hl => match us, hl with | [_], _ => rfl)
  have F_read_place : Src K mg "read_place" s_read_place ["line"] := src_mk X G a_read_place l_read_place c_read_place k_read_place (fun _ _ _ _ _ _ us hl => match us, hl with | [_], _ => rfl)
  have F_read_step : Src K mg "read_step" s_read_step ["line"] := src_mk X G a_read_step l_read_step c_read_step k_read_step (fun _ _ _ _ _ _ us hl => match us, hl with | [_], _ => rfl)
  have F_read_line : Src K mg "read_line" s_read_line ["line"] := src_mk X G a_read_line l_read_line c_read_line k_read_line (fun _ _ _ _ _ _ us hl => match us, hl with | [_], _ => rfl)
  have F_place_line : Src K mg "place_line" s_place_line ["word", "number"] := src_mk X G a_place_line l_place_line c_place_line k_place_line (fun _ _ _ _ _ _ us hl => match us, hl with | [_, _], _ => rfl)
  have F_step_line : Src K mg "step_line" s_step_line ["step", "takes", "gives"] := src_mk X G a_step_line l_step_line c_step_line k_step_line (fun _ _ _ _ _ _ us hl => match us, hl with | [_, _, _], _ => rfl)
  have F_write_plan : Src K mg "write_plan" s_write_plan ["plan"] := src_mk X G a_write_plan l_write_plan c_write_plan k_write_plan (fun _ _ _ _ _ _ us hl => match us, hl with | [_], _ => rfl)
  have F_read_plan : Src K mg "read_plan" s_read_plan ["text"] := src_mk X G a_read_plan l_read_plan c_read_plan k_read_plan (fun _ _ _ _ _ _ us hl => match us, hl with | [_], _ => rfl)
  have F__law_mixed : Src K mg "_law_mixed" s__law_mixed ["_law_bag_here", "_law_rows"] := src_mk X G a__law_mixed l__law_mixed c__law_mixed k__law_mixed (fun _ _ _ _ _ _ us hl => match us, hl with | [_, _], _ => rfl)
  have F__law_plan : Src K mg "_law_plan" s__law_plan ["_law_plan_here"] := src_mk X G a__law_plan l__law_plan c__law_plan k__law_plan (fun _ _ _ _ _ _ us hl => match us, hl with | [_], _ => rfl)
  have F__law_lines : Src K mg "_law_lines" s__law_lines ["_law_plan_here"] := src_mk X G a__law_lines l__law_lines c__law_lines k__law_lines (fun _ _ _ _ _ _ us hl => match us, hl with | [_], _ => rfl)
  have F__law_orderly : Src K mg "_law_orderly" s__law_orderly ["_law_plan_here"] := src_mk X G a__law_orderly l__law_orderly c__law_orderly k__law_orderly (fun _ _ _ _ _ _ us hl => match us, hl with | [_], _ => rfl)
  have F__law_rows_right : Src K mg "_law_rows_right" s__law_rows_right ["_law_made", "_law_plan_here"] := src_mk X G a__law_rows_right l__law_rows_right c__law_rows_right k__law_rows_right (fun _ _ _ _ _ _ us hl => match us, hl with | [_, _], _ => rfl)
  have nn_TooMany : ∀ f ∈ (["kind", "limit"] : List Str), PySem.W.findIn K (.ref C_TooMany) f = some none := fun f hf => by
      simp only [List.mem_cons, List.not_mem_nil, or_false] at hf
      rcases hf with rfl | rfl
      · exact no_kind_TooMany
      · exact no_limit_TooMany
  have X_TooMany : ErrTxt P K mg true "TooMany" C_TooMany fI_TooMany ["kind", "limit"] := err_mk (st := inClass (topS 8) 0) (fp := [("kind", _, _, _, _), ("limit", _, _, _, _)]) X G aC_TooMany z_super xL_TooMany bm_TooMany sa_TooMany ga_TooMany gg_TooMany nn_TooMany
    iC_TooMany tI_TooMany kC_TooMany ex_TooMany ve_TooMany ty_TooMany hd_TooMany sup_TooMany mro_TooMany su_TooMany ca_TooMany e_cg e_ct mo_TooMany e_opq top l_TooMany c_TooMany lc_TooMany v2_TooMany fl_TooMany cc_TooMany rfl rfl rfl rfl (by decide +kernel) (by decide +kernel) (by decide +kernel) (by decide +kernel) (by decide +kernel) (by decide +kernel) (by decide +kernel) rfl rfl rfl
    (fun _ _ _ _ _ _ _ s x us hl => match us, hl with | [_, _], _ => .of_eq rfl) (fun x us hl => match us, hl with | [_, _], _ => ⟨by rfl, .cons (by rfl) (.cons (by rfl) (.nil))⟩) (.inr ⟨rfl, _, _, _, _, _, _, rfl, by decide, rfl⟩)
  have nn_BadWord : ∀ f ∈ (["word"] : List Str), PySem.W.findIn K (.ref C_BadWord) f = some none := fun f hf => by
      simp only [List.mem_cons, List.not_mem_nil, or_false] at hf
      rcases hf with rfl
      · exact no_word_BadWord
  have X_BadWord : ErrTxt P K mg false "BadWord" C_BadWord fI_BadWord ["word"] := err_mk (st := inClass (topS 3) 0) (fp := [("word", _, _, _, _)]) X G aC_BadWord z_super xL_BadWord bm_BadWord sa_BadWord ga_BadWord gg_BadWord nn_BadWord
    iC_BadWord tI_BadWord kC_BadWord ex_BadWord ve_BadWord ty_BadWord hd_BadWord sup_BadWord mro_BadWord su_BadWord ca_BadWord e_cg e_ct mo_BadWord e_opq top l_BadWord c_BadWord lc_BadWord v2_BadWord fl_BadWord cc_BadWord rfl rfl rfl rfl (by decide +kernel) (by decide +kernel) (by decide +kernel) (by decide +kernel) (by decide +kernel) (by decide +kernel) (by decide +kernel) rfl rfl rfl
    (fun _ _ _ _ _ _ _ s x us hl => match us, hl with | [_], _ => .of_eq rfl) (fun x us hl => match us, hl with | [_], _ => ⟨by rfl, .cons (by rfl) (.nil)⟩) (.inl ⟨rfl, _, _, _, rfl⟩)
  have nn_DoubleName : ∀ f ∈ (["name"] : List Str), PySem.W.findIn K (.ref C_DoubleName) f = some none := fun f hf => by
      simp only [List.mem_cons, List.not_mem_nil, or_false] at hf
      rcases hf with rfl
      · exact no_name_DoubleName
  have X_DoubleName : ErrTxt P K mg false "DoubleName" C_DoubleName fI_DoubleName ["name"] := err_mk (st := inClass (topS 6) 0) (fp := [("name", _, _, _, _)]) X G aC_DoubleName z_super xL_DoubleName bm_DoubleName sa_DoubleName ga_DoubleName gg_DoubleName nn_DoubleName
    iC_DoubleName tI_DoubleName kC_DoubleName ex_DoubleName ve_DoubleName ty_DoubleName hd_DoubleName sup_DoubleName mro_DoubleName su_DoubleName ca_DoubleName e_cg e_ct mo_DoubleName e_opq top l_DoubleName c_DoubleName lc_DoubleName v2_DoubleName fl_DoubleName cc_DoubleName rfl rfl rfl rfl (by decide +kernel) (by decide +kernel) (by decide +kernel) (by decide +kernel) (by decide +kernel) (by decide +kernel) (by decide +kernel) rfl rfl rfl
    (fun _ _ _ _ _ _ _ s x us hl => match us, hl with | [_], _ => .of_eq rfl) (fun x us hl => match us, hl with | [_], _ => ⟨by rfl, .cons (by rfl) (.nil)⟩) (.inl ⟨rfl, _, _, _, rfl⟩)
  have nn_BadNumber : ∀ f ∈ (["number"] : List Str), PySem.W.findIn K (.ref C_BadNumber) f = some none := fun f hf => by
      simp only [List.mem_cons, List.not_mem_nil, or_false] at hf
      rcases hf with rfl
      · exact no_number_BadNumber
  have X_BadNumber : ErrTxt P K mg false "BadNumber" C_BadNumber fI_BadNumber ["number"] := err_mk (st := inClass (topS 4) 0) (fp := [("number", _, _, _, _)]) X G aC_BadNumber z_super xL_BadNumber bm_BadNumber sa_BadNumber ga_BadNumber gg_BadNumber nn_BadNumber
    iC_BadNumber tI_BadNumber kC_BadNumber ex_BadNumber ve_BadNumber ty_BadNumber hd_BadNumber sup_BadNumber mro_BadNumber su_BadNumber ca_BadNumber e_cg e_ct mo_BadNumber e_opq top l_BadNumber c_BadNumber lc_BadNumber v2_BadNumber fl_BadNumber cc_BadNumber rfl rfl rfl rfl (by decide +kernel) (by decide +kernel) (by decide +kernel) (by decide +kernel) (by decide +kernel) (by decide +kernel) (by decide +kernel) rfl rfl rfl
    (fun _ _ _ _ _ _ _ s x us hl => match us, hl with | [_], _ => .of_eq rfl) (fun x us hl => match us, hl with | [_], _ => ⟨by rfl, .cons (by rfl) (.nil)⟩) (.inl ⟨rfl, _, _, _, rfl⟩)
  have nn_EmptyStep : ∀ f ∈ (["name"] : List Str), PySem.W.findIn K (.ref C_EmptyStep) f = some none := fun f hf => by
      simp only [List.mem_cons, List.not_mem_nil, or_false] at hf
      rcases hf with rfl
      · exact no_name_EmptyStep
  have X_EmptyStep : ErrTxt P K mg false "EmptyStep" C_EmptyStep fI_EmptyStep ["name"] := err_mk (st := inClass (topS 7) 0) (fp := [("name", _, _, _, _)]) X G aC_EmptyStep z_super xL_EmptyStep bm_EmptyStep sa_EmptyStep ga_EmptyStep gg_EmptyStep nn_EmptyStep
    iC_EmptyStep tI_EmptyStep kC_EmptyStep ex_EmptyStep ve_EmptyStep ty_EmptyStep hd_EmptyStep sup_EmptyStep mro_EmptyStep su_EmptyStep ca_EmptyStep e_cg e_ct mo_EmptyStep e_opq top l_EmptyStep c_EmptyStep lc_EmptyStep v2_EmptyStep fl_EmptyStep cc_EmptyStep rfl rfl rfl rfl (by decide +kernel) (by decide +kernel) (by decide +kernel) (by decide +kernel) (by decide +kernel) (by decide +kernel) (by decide +kernel) rfl rfl rfl
    (fun _ _ _ _ _ _ _ s x us hl => match us, hl with | [_], _ => .of_eq rfl) (fun x us hl => match us, hl with | [_], _ => ⟨by rfl, .cons (by rfl) (.nil)⟩) (.inl ⟨rfl, _, _, _, rfl⟩)
  have nn_UnknownName : ∀ f ∈ (["name"] : List Str), PySem.W.findIn K (.ref C_UnknownName) f = some none := fun f hf => by
      simp only [List.mem_cons, List.not_mem_nil, or_false] at hf
      rcases hf with rfl
      · exact no_name_UnknownName
  have X_UnknownName : ErrTxt P K mg false "UnknownName" C_UnknownName fI_UnknownName ["name"] := err_mk (st := inClass (topS 5) 0) (fp := [("name", _, _, _, _)]) X G aC_UnknownName z_super xL_UnknownName bm_UnknownName sa_UnknownName ga_UnknownName gg_UnknownName nn_UnknownName
    iC_UnknownName tI_UnknownName kC_UnknownName ex_UnknownName ve_UnknownName ty_UnknownName hd_UnknownName sup_UnknownName mro_UnknownName su_UnknownName ca_UnknownName e_cg e_ct mo_UnknownName e_opq top l_UnknownName c_UnknownName lc_UnknownName v2_UnknownName fl_UnknownName cc_UnknownName rfl rfl rfl rfl (by decide +kernel) (by decide +kernel) (by decide +kernel) (by decide +kernel) (by decide +kernel) (by decide +kernel) (by decide +kernel) rfl rfl rfl
    (fun _ _ _ _ _ _ _ s x us hl => match us, hl with | [_], _ => .of_eq rfl) (fun x us hl => match us, hl with | [_], _ => ⟨by rfl, .cons (by rfl) (.nil)⟩) (.inl ⟨rfl, _, _, _, rfl⟩)
  have nn_BadText : ∀ f ∈ (["line_number"] : List Str), PySem.W.findIn K (.ref C_BadText) f = some none := fun f hf => by
      simp only [List.mem_cons, List.not_mem_nil, or_false] at hf
      rcases hf with rfl
      · exact no_line_number_BadText
  have X_BadText : ErrTxt P K mg false "BadText" C_BadText fI_BadText ["line_number"] := err_mk (st := inClass (topS 9) 0) (fp := [("line_number", _, _, _, _)]) X G aC_BadText z_super xL_BadText bm_BadText sa_BadText ga_BadText gg_BadText nn_BadText
    iC_BadText tI_BadText kC_BadText ex_BadText ve_BadText ty_BadText hd_BadText sup_BadText mro_BadText su_BadText ca_BadText e_cg e_ct mo_BadText e_opq top l_BadText c_BadText lc_BadText v2_BadText fl_BadText cc_BadText rfl rfl rfl rfl (by decide +kernel) (by decide +kernel) (by decide +kernel) (by decide +kernel) (by decide +kernel) (by decide +kernel) (by decide +kernel) rfl rfl rfl
    (fun _ _ _ _ _ _ _ s x us hl => match us, hl with | [_], _ => .of_eq rfl) (fun x us hl => match us, hl with | [_], _ => ⟨by rfl, .cons (by rfl) (.nil)⟩) (.inl ⟨rfl, _, _, _, rfl⟩)
  have FI_Plan : SrcI K C_Plan "Plan.__init__" s_Plan___init__ ["self", "places", "steps"] := srcI_mk mk_Plan kC_Plan a_Plan___init__ i_Plan___init__ l_Plan___init__ c_Plan___init__ k_Plan___init__ (fun _ _ _ _ _ _ us hl => match us, hl with | [_, _, _], _ => rfl)
  have FM_Plan_put_step : SrcM K C_Plan "put_step" "Plan.put_step" s_Plan_put_step ["self", "word", "takes", "gives"] := srcM_mk a_Plan_put_step i_Plan_put_step l_Plan_put_step c_Plan_put_step k_Plan_put_step (fun _ _ _ _ _ _ us hl => match us, hl with | [_, _, _, _], _ => rfl)
  have FM_Plan_place_rows : SrcM K C_Plan "place_rows" "Plan.place_rows" s_Plan_place_rows ["self"] := srcM_mk a_Plan_place_rows i_Plan_place_rows l_Plan_place_rows c_Plan_place_rows k_Plan_place_rows (fun _ _ _ _ _ _ us hl => match us, hl with | [_], _ => rfl)
  have FM_Plan_step_rows : SrcM K C_Plan "step_rows" "Plan.step_rows" s_Plan_step_rows ["self"] := srcM_mk a_Plan_step_rows i_Plan_step_rows l_Plan_step_rows c_Plan_step_rows k_Plan_step_rows (fun _ _ _ _ _ _ us hl => match us, hl with | [_], _ => rfl)
  have FM_Plan___eq__ : SrcM K C_Plan "__eq__" "Plan.__eq__" s_Plan___eq__ ["self", "other"] := srcM_mk a_Plan___eq__ i_Plan___eq__ l_Plan___eq__ c_Plan___eq__ k_Plan___eq__ (fun _ _ _ _ _ _ us hl => match us, hl with | [_, _], _ => rfl)
  have m_Plan := PySem.W.mg_of X G aC_Plan
  have CL_Plan : Cls K C_Plan := ⟨pg_Plan, hd_Plan, po_Plan, sa_Plan⟩
  have CC_Plan : CmpC K C_Plan := ⟨si_Plan, is_Plan⟩
  have NC_Plan : NeC K C_Plan := ⟨ne_Plan, mo_Plan⟩
  refine ⟨PySem.W.fnOf "law" "law" (defArgs s_law) (defBody s_law) (defScope s_law) .none kV_law dc_law pm_law an_law cd_law ct_law, fun s v => .of_eq rfl, fun base hK hN => ?_⟩
  obtain ⟨cs, hcs⟩ : ∃ cs : EK → Addr, cs = fun k => match k with | .tooMany => C_TooMany | .badWord => C_BadWord | .double => C_DoubleName | .badNumber => C_BadNumber | .empty => C_EmptyStep | .unknown => C_UnknownName | .inUse => C_TooMany | .badState => C_TooMany | .notReady => C_TooMany | .notSound => C_TooMany | .badPair => C_TooMany | .badText => C_BadText | .noUndo => C_TooMany := ⟨_, rfl⟩
  have X_TooMany : ErrTxt P K mg true "TooMany" (cs .tooMany) fI_TooMany ["kind", "limit"] := by rw [hcs]; exact X_TooMany
  have X_BadWord : ErrTxt P K mg false "BadWord" (cs .badWord) fI_BadWord ["word"] := by rw [hcs]; exact X_BadWord
  have X_DoubleName : ErrTxt P K mg false "DoubleName" (cs .double) fI_DoubleName ["name"] := by rw [hcs]; exact X_DoubleName
  have X_BadNumber : ErrTxt P K mg false "BadNumber" (cs .badNumber) fI_BadNumber ["number"] := by rw [hcs]; exact X_BadNumber
  have X_EmptyStep : ErrTxt P K mg false "EmptyStep" (cs .empty) fI_EmptyStep ["name"] := by rw [hcs]; exact X_EmptyStep
  have X_UnknownName : ErrTxt P K mg false "UnknownName" (cs .unknown) fI_UnknownName ["name"] := by rw [hcs]; exact X_UnknownName
  have X_BadText : ErrTxt P K mg false "BadText" (cs .badText) fI_BadText ["line_number"] := by rw [hcs]; exact X_BadText
  have O_Plan : IsO K C_Plan := ⟨CL_Plan, ca_Plan, e_cg, e_ct, mo_Plan⟩
  have T_Plan : PlanC K mg C_Plan := ⟨CL_Plan, m_Plan, no_places_Plan, no_begin_Plan, no_taken_Plan, no_given_Plan, no_steps_Plan⟩
  have P1 : Def P w K mg base CX0 1 "is_word" _ spIsWord := ok_is_word B g_LETTERS g_DIGITS_words g_MOST_SIGNS F_is_word
  have P2 : Def P w K mg base (L2.CX P w) 2 "check_word" _ (spA (preCheckWord (ecs cs))) := checkWordG (ok_check_word X_BadWord P1 F_check_word)
  have P3 : Def P w K mg base (L2.CX P w) 1 "check_number" _ (spA (preCheckNumber (ecs cs))) := checkNumberG (ok_check_number X_BadNumber F_check_number)
  have P4 : Def P w K mg base (L2.CX P w) 1 "check_names" _ (spA (preCheckNames (ecs cs))) := checkNamesG (ok_check_names B X_UnknownName X_DoubleName F_check_names)
  have P5 : Def P w K mg base (L2.CX P w) 2 "in_order" _ (spA (preInOrder (ecs cs))) := ok_in_orderG B P4 F_in_order
  have P6 : DefM P w K mg base (L2.CX P w) 3 C_Plan "put_step" _ (spC (prePut (ecs cs) C_Plan)) := ok_put_stepG B T_Plan X_DoubleName X_EmptyStep P2 P5 FM_Plan_put_step
  have DI_Plan := planW (cs := cs) (ok_plan_initG (cs := ecs cs) B T_Plan g_MOST_PLACES g_MOST_STEPS g_MOST_BEGIN X_TooMany X_DoubleName (P2.mono (by decide)) (P3.mono (by decide)) P6 FI_Plan)
  have D__law_bag := ok__law_bag (P := P) (w := w) (base := base) (k := 0) B F__law_bag
  have D__law_draw := ok__law_draw (P := P) (w := w) (base := base) (k := 0) B F__law_draw
  have D__law_word := ok__law_word (P := P) (w := w) (base := base) (cs := cs) (k := 1) B (D__law_draw.mono (by decide)) F__law_word
  have D__law_subset := ok__law_subset (P := P) (w := w) (base := base) (cs := cs) (k := 1) B (D__law_draw.mono (by decide)) F__law_subset
  have D__law_any := ok__law_any (P := P) (w := w) (base := base) (cs := cs) (k := 2) B (D__law_word.mono (by decide)) (D__law_draw.mono (by decide)) (D__law_subset.mono (by decide)) F__law_any
  have D_is_word := is_wordW (cs := cs) (isWordG P1)
  have D_read_number := ok_read_number (P := P) (w := w) (base := base) (cs := cs) (k := 0) B g_LONGEST g_DIGITS_texts F_read_number
  have D_read_place := ok_read_place (P := P) (w := w) (base := base) (cs := cs) (k := 1) B (D_read_number.mono (by decide)) (D_is_word.mono (by decide)) F_read_place
  have D_read_step := ok_read_step (P := P) (w := w) (base := base) (cs := cs) (k := 1) B (D_is_word.mono (by decide)) F_read_step
  have D_read_line := ok_read_line (P := P) (w := w) (base := base) (cs := cs) (k := 2) B (D_read_place.mono (by decide)) (D_read_step.mono (by decide)) F_read_line
  have DM_Plan_place_rows := ok_Plan_place_rows (P := P) (w := w) (base := base) (cs := cs) (k := 0) B T_Plan FM_Plan_place_rows
  have DM_Plan_step_rows := ok_Plan_step_rows (P := P) (w := w) (base := base) (cs := cs) (k := 0) B T_Plan FM_Plan_step_rows
  have DM_Plan___eq__ := ok_Plan___eq__ (P := P) (w := w) (base := base) (cs := cs) (k := 0) B T_Plan O_Plan kt_Plan_Plan FM_Plan___eq__
  have D_place_line := ok_place_line (P := P) (w := w) (base := base) (cs := cs) (k := 0) B  F_place_line
  have D_step_line := ok_step_line (P := P) (w := w) (base := base) (cs := cs) (k := 0) B  F_step_line
  have D_write_plan := ok_write_plan (P := P) (w := w) (base := base) (cs := cs) (k := 1) B T_Plan (D_place_line.mono (by decide)) (D_step_line.mono (by decide)) (DM_Plan_place_rows.mono (by decide)) (DM_Plan_step_rows.mono (by decide)) F_write_plan
  have D_read_plan := ok_read_plan (P := P) (w := w) (base := base) (cs := cs) (k := 4) B (D_read_line.mono (by decide)) X_BadText m_Plan (DI_Plan.mono (by decide)) F_read_plan
  have D__law_mixed := ok__law_mixed (P := P) (w := w) (base := base) (cs := cs) (k := 1) B (D__law_draw.mono (by decide)) F__law_mixed
  have D__law_plan := ok__law_plan (P := P) (w := w) (base := base) (cs := cs) (k := 4) B m_Plan (DI_Plan.mono (by decide)) F__law_plan
  have D__law_lines := ok__law_lines (P := P) (w := w) (base := base) (cs := cs) (k := 0) B  F__law_lines
  have D__law_orderly := ok__law_orderly (P := P) (w := w) (base := base) (cs := cs) (k := 0) B  F__law_orderly
  have D__law_rows_right := ok__law_rows_right (P := P) (w := w) (base := base) (cs := cs) (k := 1) B T_Plan (D__law_orderly.mono (by decide)) (DM_Plan_place_rows.mono (by decide)) (DM_Plan_step_rows.mono (by decide)) F__law_rows_right
  exact ok_law (P := P) (w := w) (base := base) (cs := cs) (k := 5) B T_Plan (D__law_any.mono (by decide)) (D__law_draw.mono (by decide)) (D__law_mixed.mono (by decide)) (D_read_plan.mono (by decide)) (D__law_lines.mono (by decide)) (D__law_plan.mono (by decide)) (D__law_rows_right.mono (by decide)) (D__law_orderly.mono (by decide)) (D_write_plan.mono (by decide)) CC_Plan NC_Plan O_Plan kt_Plan_Plan (DM_Plan___eq__.mono (by decide)) (D__law_bag.mono (by decide)) (fun_mk l_law c_law k_law) law_pure
theorem walk {l : PySem.W.OpenLaw} {q : Program} {loose : List Str} {XP : (Str → Option Value) → Heap → Prop} {YP : World → Heap → Prop} {d : DefRec} {K : Params → PySem.W.Frag} (hn : l.most = some 63) (hdf : d.params.defaults = [])
    (hY : ∀ (w : World) (h : Heap), YP w h → (K w.params).In h)
    (F : ∀ (w : World) (mg : Str → Option Value) (fa : Addr) (h : Heap), (K w.params).In h → h.Ns mainGlobals mg → mg d.name = some (.ref fa) →
      ∃ fd : FuncData, (∀ (s : Shared) (u : Value), BindsTo s fd ⟨[u], []⟩ [("_law_script", u)]) ∧ ∀ base : Heap, (K w.params).In base → base.Ns mainGlobals mg → FnOk l.prog w (K w.params) mg base CX0 7 fa fd ["_law_script"] (spLaw (K w.params))) :
    PySem.W.WalkO q loose XP YP l.row.toRowW d [] (fun f vs => PySem.call f vs) :=
  L2.walk_of (n := 63) (k := 7) (x := "_law_script") (CX := fun _ => CX0) (sp := fun w => spLaw (K w.params)) hn (by decide) hdf ⟨rfl, by decide, by decide⟩ hY F (fun _ _ a ns hl _ hS => ⟨a, ns, rfl, hS, hl, fun _ => rfl⟩) fun _ _ _ _ _ z => z
end Held
def PySem.W.Fast.tw10583818332859797189 : Nat := 0
def PySem.W.Fast.tw12029996527087908422 : Nat := 0
def PySem.W.Fast.tw12358972723682377991 : Nat := 0
def PySem.W.Fast.tw5413007902638722984 : Nat := 0
def PySem.W.Fast.tw5869192599538900362 : Nat := 0
def PySem.W.Fast.tw1218096287103011434 : Nat := 0
def PySem.W.Fast.tw6248355952331695276 : Nat := 0
def PySem.W.Fast.tw6747882135420049709 : Nat := 0
def PySem.W.Fast.tw12981265509745036205 : Nat := 0
def PySem.W.Fast.tw3320040731373539886 : Nat := 0
def PySem.W.Fast.tw5246155182546587215 : Nat := 0
def PySem.W.Fast.tw835851437802826834 : Nat := 0
def PySem.W.Fast.tw13773778688401363476 : Nat := 0
def PySem.W.Fast.tw5969137208702567480 : Nat := 0
def PySem.W.Fast.tw14648869170519206298 : Nat := 0
def PySem.W.Fast.tw5271439701610211132 : Nat := 0
def PySem.W.Fast.tw3266079279404773758 : Nat := 0
open PySem PySem.W PyProof.Rows in
set_option maxRecDepth 100000 in
set_option maxHeartbeats 0 in
theorem PySem.Challenge.cw_heldsteps_k62_whole_plan_texts_round_holds : PySem.Challenge.rw_heldsteps_k62_whole_plan_texts_round.Holds := by
  w_on; o_law; k_head; (case hw => w_witness2)
  k_fill
  refine Held.walk (l := PySem.Challenge.rw_heldsteps_k62_whole_plan_texts_round) rfl rfl (fun w h Y => PySem.W.kIn_of Y) ?F
  case F =>
    intro w mg fa h KX G hmg
    refine' Held.all_mk KX G hmg (by decide +kernel) ?z_len ?z_range ?z_abs ?z_sum ?z_sorted ?z_isinstance ?z_zip ?z_enumerate ?z_reversed ?z_int ?z_str ?z_list ?z_tuple ?z_bool ?z_all ?z_any ?z_ValueError ?z_super ?a_LETTERS ?a_DIGITS ?a_MOST_SIGNS ?a_MOST_PLACES ?a_MOST_STEPS ?a_MOST_BEGIN ?a_LONGEST ?a_DIGITS_texts ?a__law_bag ?l__law_bag ?c__law_bag ?k__law_bag ?a__law_draw ?l__law_draw ?c__law_draw ?k__law_draw ?a_is_word ?l_is_word ?c_is_word ?k_is_word ?a_check_word ?l_check_word ?c_check_word ?k_check_word ?a_check_number ?l_check_number ?c_check_number ?k_check_number ?a_check_names ?l_check_names ?c_check_names ?k_check_names ?a_in_order ?l_in_order ?c_in_order ?k_in_order ?a__law_word ?l__law_word ?c__law_word ?k__law_word ?a__law_subset ?l__law_subset ?c__law_subset ?k__law_subset ?a__law_any ?l__law_any ?c__law_any ?k__law_any ?a_read_number ?l_read_number ?c_read_number ?k_read_number ?a_read_place ?l_read_place ?c_read_place ?k_read_place ?a_read_step ?l_read_step ?c_read_step ?k_read_step ?a_read_line ?l_read_line ?c_read_line ?k_read_line ?a_place_line ?l_place_line ?c_place_line ?k_place_line ?a_step_line ?l_step_line ?c_step_line ?k_step_line ?a_write_plan ?l_write_plan ?c_write_plan ?k_write_plan ?a_read_plan ?l_read_plan ?c_read_plan ?k_read_plan ?a__law_mixed ?l__law_mixed ?c__law_mixed ?k__law_mixed ?a__law_plan ?l__law_plan ?c__law_plan ?k__law_plan ?a__law_lines ?l__law_lines ?c__law_lines ?k__law_lines ?a__law_orderly ?l__law_orderly ?c__law_orderly ?k__law_orderly ?a__law_rows_right ?l__law_rows_right ?c__law_rows_right ?k__law_rows_right ?a_law ?l_law ?c_law ?k_law ?e_opq ?e_cg ?e_ct ?aC_TooMany ?xL_TooMany ?bm_TooMany ?sa_TooMany ?ga_TooMany ?gg_TooMany ?no_kind_TooMany ?no_limit_TooMany ?iC_TooMany ?tI_TooMany ?kC_TooMany ?ex_TooMany ?ve_TooMany ?ty_TooMany ?hd_TooMany ?sup_TooMany ?mro_TooMany ?su_TooMany ?ca_TooMany ?mo_TooMany ?l_TooMany ?c_TooMany ?lc_TooMany ?v2_TooMany ?fl_TooMany ?cc_TooMany ?aC_BadWord ?xL_BadWord ?bm_BadWord ?sa_BadWord ?ga_BadWord ?gg_BadWord ?no_word_BadWord ?iC_BadWord ?tI_BadWord ?kC_BadWord ?ex_BadWord ?ve_BadWord ?ty_BadWord ?hd_BadWord ?sup_BadWord ?mro_BadWord ?su_BadWord ?ca_BadWord ?mo_BadWord ?l_BadWord ?c_BadWord ?lc_BadWord ?v2_BadWord ?fl_BadWord ?cc_BadWord ?aC_DoubleName ?xL_DoubleName ?bm_DoubleName ?sa_DoubleName ?ga_DoubleName ?gg_DoubleName ?no_name_DoubleName ?iC_DoubleName ?tI_DoubleName ?kC_DoubleName ?ex_DoubleName ?ve_DoubleName ?ty_DoubleName ?hd_DoubleName ?sup_DoubleName ?mro_DoubleName ?su_DoubleName ?ca_DoubleName ?mo_DoubleName ?l_DoubleName ?c_DoubleName ?lc_DoubleName ?v2_DoubleName ?fl_DoubleName ?cc_DoubleName ?aC_BadNumber ?xL_BadNumber ?bm_BadNumber ?sa_BadNumber ?ga_BadNumber ?gg_BadNumber ?no_number_BadNumber ?iC_BadNumber ?tI_BadNumber ?kC_BadNumber ?ex_BadNumber ?ve_BadNumber ?ty_BadNumber ?hd_BadNumber ?sup_BadNumber ?mro_BadNumber ?su_BadNumber ?ca_BadNumber ?mo_BadNumber ?l_BadNumber ?c_BadNumber ?lc_BadNumber ?v2_BadNumber ?fl_BadNumber ?cc_BadNumber ?aC_EmptyStep ?xL_EmptyStep ?bm_EmptyStep ?sa_EmptyStep ?ga_EmptyStep ?gg_EmptyStep ?no_name_EmptyStep ?iC_EmptyStep ?tI_EmptyStep ?kC_EmptyStep ?ex_EmptyStep ?ve_EmptyStep ?ty_EmptyStep ?hd_EmptyStep ?sup_EmptyStep ?mro_EmptyStep ?su_EmptyStep ?ca_EmptyStep ?mo_EmptyStep ?l_EmptyStep ?c_EmptyStep ?lc_EmptyStep ?v2_EmptyStep ?fl_EmptyStep ?cc_EmptyStep ?aC_UnknownName ?xL_UnknownName ?bm_UnknownName ?sa_UnknownName ?ga_UnknownName ?gg_UnknownName ?no_name_UnknownName ?iC_UnknownName ?tI_UnknownName ?kC_UnknownName ?ex_UnknownName ?ve_UnknownName ?ty_UnknownName ?hd_UnknownName ?sup_UnknownName ?mro_UnknownName ?su_UnknownName ?ca_UnknownName ?mo_UnknownName ?l_UnknownName ?c_UnknownName ?lc_UnknownName ?v2_UnknownName ?fl_UnknownName ?cc_UnknownName ?aC_BadText ?xL_BadText ?bm_BadText ?sa_BadText ?ga_BadText ?gg_BadText ?no_line_number_BadText ?iC_BadText ?tI_BadText ?kC_BadText ?ex_BadText ?ve_BadText ?ty_BadText ?hd_BadText ?sup_BadText ?mro_BadText ?su_BadText ?ca_BadText ?mo_BadText ?l_BadText ?c_BadText ?lc_BadText ?v2_BadText ?fl_BadText ?cc_BadText ?aC_Plan ?pg_Plan ?hd_Plan ?po_Plan ?sa_Plan ?no_places_Plan ?no_begin_Plan ?no_taken_Plan ?no_given_Plan ?no_steps_Plan ?ca_Plan ?mo_Plan ?mk_Plan ?kC_Plan ?a_Plan___init__ ?i_Plan___init__ ?l_Plan___init__ ?c_Plan___init__ ?k_Plan___init__ ?a_Plan_put_step ?i_Plan_put_step ?l_Plan_put_step ?c_Plan_put_step ?k_Plan_put_step ?a_Plan_place_rows ?i_Plan_place_rows ?l_Plan_place_rows ?c_Plan_place_rows ?k_Plan_place_rows ?a_Plan_step_rows ?i_Plan_step_rows ?l_Plan_step_rows ?c_Plan_step_rows ?k_Plan_step_rows ?a_Plan___eq__ ?i_Plan___eq__ ?l_Plan___eq__ ?c_Plan___eq__ ?k_Plan___eq__ ?si_Plan ?is_Plan ?ne_Plan ?kt_Plan_Plan
    (case z_len => k_is)
    (case z_range => k_is)
    (case z_abs => k_is)
    (case z_sum => k_is)
    (case z_sorted => k_is)
    (case z_isinstance => k_is)
    (case z_zip => k_is)
    (case z_enumerate => k_is)
    (case z_reversed => k_is)
    (case z_int => k_is)
    (case z_str => k_is)
    (case z_list => k_is)
    (case z_tuple => k_is)
    (case z_bool => k_is)
    (case z_all => k_is)
    (case z_any => k_is)
    (case z_ValueError => k_is)
    (case z_super => k_is)
    (case a_LETTERS => k_is)
    (case a_DIGITS => k_is)
    (case a_MOST_SIGNS => k_is)
    (case a_MOST_PLACES => k_is)
    (case a_MOST_STEPS => k_is)
    (case a_MOST_BEGIN => k_is)
    (case a_LONGEST => k_is)
    (case a_DIGITS_texts => k_is)
    (case a__law_bag => k_is)
    (case l__law_bag => k_is)
    (case c__law_bag => k_is)
    (case k__law_bag => k_is)
    (case a__law_draw => k_is)
    (case l__law_draw => k_is)
    (case c__law_draw => k_is)
    (case k__law_draw => k_is)
    (case a_is_word => k_is)
    (case l_is_word => k_is)
    (case c_is_word => k_is)
    (case k_is_word => k_is)
    (case a_check_word => k_is)
    (case l_check_word => k_is)
    (case c_check_word => k_is)
    (case k_check_word => k_is)
    (case a_check_number => k_is)
    (case l_check_number => k_is)
    (case c_check_number => k_is)
    (case k_check_number => k_is)
    (case a_check_names => k_is)
    (case l_check_names => k_is)
    (case c_check_names => k_is)
    (case k_check_names => k_is)
    (case a_in_order => k_is)
    (case l_in_order => k_is)
    (case c_in_order => k_is)
    (case k_in_order => k_is)
    (case a__law_word => k_is)
    (case l__law_word => k_is)
    (case c__law_word => k_is)
    (case k__law_word => k_is)
    (case a__law_subset => k_is)
    (case l__law_subset => k_is)
    (case c__law_subset => k_is)
    (case k__law_subset => k_is)
    (case a__law_any => k_is)
    (case l__law_any => k_is)
    (case c__law_any => k_is)
    (case k__law_any => k_is)
    (case a_read_number => k_is)
    (case l_read_number => k_is)
    (case c_read_number => k_is)
    (case k_read_number => k_is)
    (case a_read_place => k_is)
    (case l_read_place => k_is)
    (case c_read_place => k_is)
    (case k_read_place => k_is)
    (case a_read_step => k_is)
    (case l_read_step => k_is)
    (case c_read_step => k_is)
    (case k_read_step => k_is)
    (case a_read_line => k_is)
    (case l_read_line => k_is)
    (case c_read_line => k_is)
    (case k_read_line => k_is)
    (case a_place_line => k_is)
    (case l_place_line => k_is)
    (case c_place_line => k_is)
    (case k_place_line => k_is)
    (case a_step_line => k_is)
    (case l_step_line => k_is)
    (case c_step_line => k_is)
    (case k_step_line => k_is)
    (case a_write_plan => k_is)
    (case l_write_plan => k_is)
    (case c_write_plan => k_is)
    (case k_write_plan => k_is)
    (case a_read_plan => k_is)
    (case l_read_plan => k_is)
    (case c_read_plan => k_is)
    (case k_read_plan => k_is)
    (case a__law_mixed => k_is)
    (case l__law_mixed => k_is)
    (case c__law_mixed => k_is)
    (case k__law_mixed => k_is)
    (case a__law_plan => k_is)
    (case l__law_plan => k_is)
    (case c__law_plan => k_is)
    (case k__law_plan => k_is)
    (case a__law_lines => k_is)
    (case l__law_lines => k_is)
    (case c__law_lines => k_is)
    (case k__law_lines => k_is)
    (case a__law_orderly => k_is)
    (case l__law_orderly => k_is)
    (case c__law_orderly => k_is)
    (case k__law_orderly => k_is)
    (case a__law_rows_right => k_is)
    (case l__law_rows_right => k_is)
    (case c__law_rows_right => k_is)
    (case k__law_rows_right => k_is)
    (case a_law => k_is)
    (case l_law => k_is)
    (case c_law => k_is)
    (case k_law => k_is)
    (case e_opq => k_is)
    (case e_cg => k_is)
    (case e_ct => k_is)
    (case aC_TooMany => k_is)
    (case xL_TooMany => k_is)
    (case bm_TooMany => rfl)
    (case sa_TooMany => k_is)
    (case ga_TooMany => k_is)
    (case gg_TooMany => k_is)
    (case no_kind_TooMany => k_is)
    (case no_limit_TooMany => k_is)
    (case iC_TooMany => k_is)
    (case tI_TooMany => k_is)
    (case kC_TooMany => k_is)
    (case ex_TooMany => k_is)
    (case ve_TooMany => k_is)
    (case ty_TooMany => k_is)
    (case hd_TooMany => k_is)
    (case sup_TooMany => ks_is)
    (case mro_TooMany => k_is)
    (case su_TooMany => first | rfl | k_is)
    (case ca_TooMany => k_is)
    (case mo_TooMany => k_is)
    (case l_TooMany => k_is)
    (case c_TooMany => k_is)
    (case lc_TooMany => k_is)
    (case v2_TooMany => rfl)
    (case fl_TooMany => first | rfl | decide +kernel)
    (case cc_TooMany => k_is)
    (case aC_BadWord => k_is)
    (case xL_BadWord => k_is)
    (case bm_BadWord => rfl)
    (case sa_BadWord => k_is)
    (case ga_BadWord => k_is)
    (case gg_BadWord => k_is)
    (case no_word_BadWord => k_is)
    (case iC_BadWord => k_is)
    (case tI_BadWord => k_is)
    (case kC_BadWord => k_is)
    (case ex_BadWord => k_is)
    (case ve_BadWord => k_is)
    (case ty_BadWord => k_is)
    (case hd_BadWord => k_is)
    (case sup_BadWord => ks_is)
    (case mro_BadWord => k_is)
    (case su_BadWord => first | rfl | k_is)
    (case ca_BadWord => k_is)
    (case mo_BadWord => k_is)
    (case l_BadWord => k_is)
    (case c_BadWord => k_is)
    (case lc_BadWord => k_is)
    (case v2_BadWord => rfl)
    (case fl_BadWord => first | rfl | decide +kernel)
    (case cc_BadWord => k_is)
    (case aC_DoubleName => k_is)
    (case xL_DoubleName => k_is)
    (case bm_DoubleName => rfl)
    (case sa_DoubleName => k_is)
    (case ga_DoubleName => k_is)
    (case gg_DoubleName => k_is)
    (case no_name_DoubleName => k_is)
    (case iC_DoubleName => k_is)
    (case tI_DoubleName => k_is)
    (case kC_DoubleName => k_is)
    (case ex_DoubleName => k_is)
    (case ve_DoubleName => k_is)
    (case ty_DoubleName => k_is)
    (case hd_DoubleName => k_is)
    (case sup_DoubleName => ks_is)
    (case mro_DoubleName => k_is)
    (case su_DoubleName => first | rfl | k_is)
    (case ca_DoubleName => k_is)
    (case mo_DoubleName => k_is)
    (case l_DoubleName => k_is)
    (case c_DoubleName => k_is)
    (case lc_DoubleName => k_is)
    (case v2_DoubleName => rfl)
    (case fl_DoubleName => first | rfl | decide +kernel)
    (case cc_DoubleName => k_is)
    (case aC_BadNumber => k_is)
    (case xL_BadNumber => k_is)
    (case bm_BadNumber => rfl)
    (case sa_BadNumber => k_is)
    (case ga_BadNumber => k_is)
    (case gg_BadNumber => k_is)
    (case no_number_BadNumber => k_is)
    (case iC_BadNumber => k_is)
    (case tI_BadNumber => k_is)
    (case kC_BadNumber => k_is)
    (case ex_BadNumber => k_is)
    (case ve_BadNumber => k_is)
    (case ty_BadNumber => k_is)
    (case hd_BadNumber => k_is)
    (case sup_BadNumber => ks_is)
    (case mro_BadNumber => k_is)
    (case su_BadNumber => first | rfl | k_is)
    (case ca_BadNumber => k_is)
    (case mo_BadNumber => k_is)
    (case l_BadNumber => k_is)
    (case c_BadNumber => k_is)
    (case lc_BadNumber => k_is)
    (case v2_BadNumber => rfl)
    (case fl_BadNumber => first | rfl | decide +kernel)
    (case cc_BadNumber => k_is)
    (case aC_EmptyStep => k_is)
    (case xL_EmptyStep => k_is)
    (case bm_EmptyStep => rfl)
    (case sa_EmptyStep => k_is)
    (case ga_EmptyStep => k_is)
    (case gg_EmptyStep => k_is)
    (case no_name_EmptyStep => k_is)
    (case iC_EmptyStep => k_is)
    (case tI_EmptyStep => k_is)
    (case kC_EmptyStep => k_is)
    (case ex_EmptyStep => k_is)
    (case ve_EmptyStep => k_is)
    (case ty_EmptyStep => k_is)
    (case hd_EmptyStep => k_is)
    (case sup_EmptyStep => ks_is)
    (case mro_EmptyStep => k_is)
    (case su_EmptyStep => first | rfl | k_is)
    (case ca_EmptyStep => k_is)
    (case mo_EmptyStep => k_is)
    (case l_EmptyStep => k_is)
    (case c_EmptyStep => k_is)
    (case lc_EmptyStep => k_is)
    (case v2_EmptyStep => rfl)
    (case fl_EmptyStep => first | rfl | decide +kernel)
    (case cc_EmptyStep => k_is)
    (case aC_UnknownName => k_is)
    (case xL_UnknownName => k_is)
    (case bm_UnknownName => rfl)
    (case sa_UnknownName => k_is)
    (case ga_UnknownName => k_is)
    (case gg_UnknownName => k_is)
    (case no_name_UnknownName => k_is)
    (case iC_UnknownName => k_is)
    (case tI_UnknownName => k_is)
    (case kC_UnknownName => k_is)
    (case ex_UnknownName => k_is)
    (case ve_UnknownName => k_is)
    (case ty_UnknownName => k_is)
    (case hd_UnknownName => k_is)
    (case sup_UnknownName => ks_is)
    (case mro_UnknownName => k_is)
    (case su_UnknownName => first | rfl | k_is)
    (case ca_UnknownName => k_is)
    (case mo_UnknownName => k_is)
    (case l_UnknownName => k_is)
    (case c_UnknownName => k_is)
    (case lc_UnknownName => k_is)
    (case v2_UnknownName => rfl)
    (case fl_UnknownName => first | rfl | decide +kernel)
    (case cc_UnknownName => k_is)
    (case aC_BadText => k_is)
    (case xL_BadText => k_is)
    (case bm_BadText => rfl)
    (case sa_BadText => k_is)
    (case ga_BadText => k_is)
    (case gg_BadText => k_is)
    (case no_line_number_BadText => k_is)
    (case iC_BadText => k_is)
    (case tI_BadText => k_is)
    (case kC_BadText => k_is)
    (case ex_BadText => k_is)
    (case ve_BadText => k_is)
    (case ty_BadText => k_is)
    (case hd_BadText => k_is)
    (case sup_BadText => ks_is)
    (case mro_BadText => k_is)
    (case su_BadText => first | rfl | k_is)
    (case ca_BadText => k_is)
    (case mo_BadText => k_is)
    (case l_BadText => k_is)
    (case c_BadText => k_is)
    (case lc_BadText => k_is)
    (case v2_BadText => rfl)
    (case fl_BadText => first | rfl | decide +kernel)
    (case cc_BadText => k_is)
    (case aC_Plan => k_is)
    (case pg_Plan => k_is)
    (case hd_Plan => k_is)
    (case po_Plan => k_is)
    (case sa_Plan => k_is)
    (case no_places_Plan => k_is)
    (case no_begin_Plan => k_is)
    (case no_taken_Plan => k_is)
    (case no_given_Plan => k_is)
    (case no_steps_Plan => k_is)
    (case ca_Plan => k_is)
    (case mo_Plan => k_is)
    (case mk_Plan => k_is)
    (case kC_Plan => k_is)
    (case a_Plan___init__ => k_is)
    (case i_Plan___init__ => k_is)
    (case l_Plan___init__ => k_is)
    (case c_Plan___init__ => k_is)
    (case k_Plan___init__ => k_is)
    (case a_Plan_put_step => k_is)
    (case i_Plan_put_step => k_is)
    (case l_Plan_put_step => k_is)
    (case c_Plan_put_step => k_is)
    (case k_Plan_put_step => k_is)
    (case a_Plan_place_rows => k_is)
    (case i_Plan_place_rows => k_is)
    (case l_Plan_place_rows => k_is)
    (case c_Plan_place_rows => k_is)
    (case k_Plan_place_rows => k_is)
    (case a_Plan_step_rows => k_is)
    (case i_Plan_step_rows => k_is)
    (case l_Plan_step_rows => k_is)
    (case c_Plan_step_rows => k_is)
    (case k_Plan_step_rows => k_is)
    (case a_Plan___eq__ => k_is)
    (case i_Plan___eq__ => k_is)
    (case l_Plan___eq__ => k_is)
    (case c_Plan___eq__ => k_is)
    (case k_Plan___eq__ => k_is)
    (case si_Plan => k_is)
    (case is_Plan => k_is)
    (case ne_Plan => k_is)
    (case kt_Plan_Plan => kit_is)
#print axioms PySem.Challenge.cw_heldsteps_k62_whole_plan_texts_round_holds
